import PyProof.Rows.All
import Wide.All
import OpenK.AllK
import Wide.FinOn
import HandS.TupMul
import HandS.Base
import HandS.List
import HandS.Iter
import HandS.ForMost
import HandS.ForExc
import HandS.Wide
import HandS.TupAny
import HandS.IsInst
import HandS.Rev
import HandS.SortInts
import HandS.Flow
import HandS.CallSlots
import HandS.WideBits
import HandS.Style
import HandS.Deep
import KE.DataMinMax
import KE.KTupSum
import KE.KSortedM
import HandS.Zip
import HandS.ExcOwn
import HandS.Exc
import HandS.Comp
import HandS.Dict
import HandS.Conv
import HandS.SetFor
import HandS.Small
import HandS.Strs
import HandS.TryMany
import HandS.WordsExc
import HandS.Codes
import HandS.Ends
import PyProof.FString4
import KE.KExcSuper
import PyProof.AssignAttr
import HandS.HeadWalk
import PySem.Challenge.RW_wholeproof_k48_whole_chains_of_sums
set_option Elab.async false
set_option linter.all false
set_option autoImplicit false
set_option maxRecDepth 100000
set_option maxHeartbeats 4000000
namespace PI
open PySem PySem.Spec PyProof.Rows L2
/-- a tuple, 0 times or fewer -/
theorem tm_none (l : Addr) (xs : Array Value) (n : Nat) (dd : Option Addr) (sl : Array (Option Value)) (k : Int) (u : Tok) (g0 : (decide (k < -(2 ^ 63)) || decide (k ≥ 2 ^ 63)) = false) (g1 : (xs.isEmpty || k == 1) = false) (g2 : (decide (k ≤ 0) || xs.isEmpty) = true) :
    Meets (Builtin.«tuple.__mul__» ⟨[.ref l, .int k u], []⟩) (fun _ R s => s.heap.get? l = some { cls := .type "tuple", dict := dd, data := .seq xs n, slots := sl } ∧
      R (.ok (.ret (Value.ref s.heap.objs.size))) { s with heap := s.heap.push { cls := Value.type "tuple", data := Data.seq #[] }, toks := s.toks }) := .of_wp fun prog w A R s h => by
  obtain ⟨hp, g, d, tk, os⟩ := s
  obtain ⟨at_, after⟩ := h
  have f1 := AutoSeq1.idx_int
  have hz : (#[] : Array Value).size ≤ sizeLine := Nat.zero_le _
  wp_walk using wpAny_loadPart' at_
  repeat (first
    | (refine wpAny_ite_false (decide_eq_false (by rw [g0]; exact Bool.false_ne_true)) ?_
       wp_walk using wpAny_loadPart' at_)
    | (refine wpAny_ite_false (decide_eq_false (by rw [g1]; exact Bool.false_ne_true)) ?_
       wp_walk using wpAny_loadPart' at_)
    | (refine wpAny_ite_true (decide_eq_true (by rw [g2])) ?_
       wp_walk using wpAny_loadPart' at_)
    | (refine wpAny_ite_false (decide_eq_false (Nat.not_lt.mpr hz)) ?_
       wp_walk using wpAny_loadPart' at_))
  exact ⟨_, rfl, after⟩
/-- a tuple once: itself -/
theorem tm_once (l : Addr) (xs : Array Value) (n : Nat) (dd : Option Addr) (sl : Array (Option Value)) (u : Tok) :
    Meets (Builtin.«tuple.__mul__» ⟨[.ref l, .int 1 u], []⟩) (fun _ R s => s.heap.get? l = some { cls := .type "tuple", dict := dd, data := .seq xs n, slots := sl } ∧ R (.ok (.ret (Value.ref l))) s) := .of_wp fun prog w A R s h => by
  obtain ⟨hp, g, d, tk, os⟩ := s
  obtain ⟨at_, after⟩ := h
  have f1 := AutoSeq1.idx_int
  have g1 : (xs.isEmpty || (1 : Int) == 1) = true := by simp
  have g0 : (decide ((1 : Int) < -(2 ^ 63)) || decide ((1 : Int) ≥ 2 ^ 63)) = false := by decide
  wp_walk using wpAny_loadPart' at_
  repeat (first
    | (refine wpAny_ite_false (decide_eq_false (by rw [g0]; exact Bool.false_ne_true)) ?_
       wp_walk using wpAny_loadPart' at_)
    | (refine wpAny_ite_true (decide_eq_true (by rw [g1])) ?_
       wp_walk using wpAny_loadPart' at_))
  exact ⟨_, rfl, after⟩
section
variable {X : Cx}
/-- x * k for k = 0, k = 1 and less -/
def rRepL0 (K : PySem.W.Frag) : R2 := fun x y H Q => ∃ l k xs, x = .ref l ∧ y = .int k ∧ SqT K H l xs ∧ xs ≠ [] ∧ ((k = 1 ∧ Q (.ref l) H) ∨ (-1000000 ≤ k ∧ k ≤ 0 ∧ ∀ p, H p = none → Q (.ref p) (upd H p (.tup []))))
theorem op_repL0 : OpR X (binaryOp .Mult) (rRepL0 X.K) := by
  intro pins s σ H x y v u Q I rx ry h
  obtain ⟨l, k, xs, rfl, rfl, hT, hne, q⟩ := h
  cases rx
  obtain ⟨t, rfl⟩ := ry
  obtain ⟨its, r, ⟨⟨cls, dd, data, sl⟩, ho, hc, n, hd⟩, hs⟩ := I.tuple hT
  obtain rfl : cls = .type "tuple" := hc
  obtain rfl : data = .seq its.toArray n := hd
  have hle := r.length
  have hi : its.toArray.isEmpty = false := by
    cases its with
    | nil => cases xs with
      | nil => exact absurd rfl hne
      | cons _ _ => cases hle
    | cons a b => rfl
  rcases q with ⟨rfl, q⟩ | ⟨h0, h1, q⟩
  · exact wpAny_binaryOp_repeat_ref (T := "tuple") (U := "int") (by decide) ⟨_, ho, rfl⟩ (fun s' => typeIs_int s' 1 t) noFill_tuple_mul F.fills_int_mul F.slot_int_rmul repeat_tuple F.slot_int_index.lookup
      (call_meets F.slot_int_rmul (typeIs_int s 1 t) F.entry_int_rmul (F.args_int_rmul_2 _ _) (int_rmul_tuple 1 t l its.toArray n dd sl)
        ⟨ho, rfl, ⟨_, ho, rfl⟩, call_meets F.slot_tuple_mul ⟨_, ho, rfl⟩ F.entry_tuple_mul (F.args_tuple_mul_2 _ _) (tm_once l its.toArray n dd sl t) ⟨ho, .ref l, H, I, rfl, q⟩⟩)
  · have g0 : (decide (k < -(2 ^ 63)) || decide (k ≥ 2 ^ 63)) = false := by rw [decide_eq_false (by omega), decide_eq_false (by omega)]; rfl
    have g1 : (its.toArray.isEmpty || k == 1) = false := by rw [hi, Bool.false_or]; exact beq_eq_false_iff_ne.mpr (by omega)
    have g2 : (decide (k ≤ 0) || its.toArray.isEmpty) = true := by rw [decide_eq_true h1]; rfl
    refine wpAny_binaryOp_repeat_ref (T := "tuple") (U := "int") (by decide) ⟨_, ho, rfl⟩ (fun s' => typeIs_int s' k t) noFill_tuple_mul F.fills_int_mul F.slot_int_rmul repeat_tuple F.slot_int_index.lookup
      (call_meets F.slot_int_rmul (typeIs_int s k t) F.entry_int_rmul (F.args_int_rmul_2 _ _) (int_rmul_tuple k t l its.toArray n dd sl)
        ⟨ho, rfl, ⟨_, ho, rfl⟩, call_meets F.slot_tuple_mul ⟨_, ho, rfl⟩ F.entry_tuple_mul (F.args_tuple_mul_2 _ _) (tm_none l its.toArray n dd sl k t g0 g1 g2) ⟨ho, ?_⟩⟩)
    refine ⟨.ref s.heap.objs.size, _, I.laid (t' := s.toks) (o := .tup []) (fun b ob q => Heap.get?_push_of_some _ q) (Nat.le_refl _) ?_, rfl, q _ (I.hok.fresh (Nat.le_refl _))⟩
    exact ⟨Nat.zero_le _, [], .nil, IsTup.new _ _⟩
end
end PI

namespace PI
open PySem L2

/-- values without a heap: tuples and finished lists are plain; ref k: a shared list -/
inductive D where
  | non | bl (b : Bool) | int (i : Int) | str (x : Str)
  | tup (ds : List D) | lst (ds : List D) | ref (k : Nat)

inductive Sl where
  | val (d : D) | own (ds : List D) | dct (kvs : List (Key × D)) | ldk (kvs : List (Key × D)) | exc (c : Nat) (d : D)
inductive RV where
  | val (d : D) | own (ds : List D) | loc (i : Nat) (ds : List D) | dct (kvs : List (Key × D)) | ldc (i : Nat) (kvs : List (Key × D))
structure S where
  t : List (Option Sl)
  h : List (List D)
inductive Res (α : Type) where
  | ok (a : α) (s : S) | exc (c : Nat) (d : D) (s : S) | bad
inductive R where
  | next (s : S) | brk (s : S) | cnt (s : S) | ret (r : RV) (s : S) | exc (c : Nat) (d : D) (s : S) | bad
inductive FR where
  | ok (r : RV) (h : List (List D)) | exc (c : Nat) (d : D) (h : List (List D)) | bad
abbrev Fns := Str → List D → List (List D) → FR

def Res.bind {α β : Type} (r : Res α) (f : α → S → Res β) : Res β :=
  match r with
  | .ok a s => f a s
  | .exc c d s => .exc c d s
  | .bad => .bad
def Res.run {α : Type} (r : Res α) (f : α → S → R) : R :=
  match r with
  | .ok a s => f a s
  | .exc c d s => .exc c d s
  | .bad => .bad
def Res.map {α β : Type} (r : Res α) (f : α → β) : Res β := r.bind fun a s => .ok (f a) s

inductive BOp | add | sub | mul | fdiv | mod | pow
  deriving DecidableEq
inductive COp | eq | ne | lt | le | gt | ge | isin | notin | is | isnot
  deriving DecidableEq
inductive Ty | tup | lst | int | bl | str
  deriving DecidableEq
inductive Bl | len | abs | int | max2 | min2 | sum | all | any | tuple | list | sorted | bits | max1 | min1
  deriving DecidableEq

inductive MT where
  | name (i : Nat) | tup (is : List Nat)

mutual
inductive ME where
  | var (i : Nat)
  | cst (d : D)
  | glb (x : Str) (n : Int)
  | tup (es : MEs)
  | lst (es : MEs)
  | bin (o : BOp) (a b : ME)
  | neg (a : ME)
  | not (a : ME)
  | bop (conj : Bool) (es : MEs)
  | cmp (a : ME) (cs : MCs)
  | call (f : Str) (es : MEs)
  | blt (b : Bl) (es : MEs)
  | isi (a : ME) (t : Ty)
  | idx (a b : ME)
  | slc (a : ME) (lo hi : MO)
  | rev (a : ME)
  | dct0
  | dct1 (q : Key) (d : D)
  | din (neg : Bool) (a x : ME)
  | dix (x k : ME)
  | dgt (x k d : ME)
  | sset (a : ME)
  | lrng (a : ME)
  | trng (a b : ME)
  | lc (elt : ME) (tg : MT) (it : MI) (cond : MO)
  | lc2 (elt : ME) (tg : MT) (it : MI) (cond : MO) (tg1 : MT) (it1 : MI) (cond1 : MO)
  | fld (i : Nat)
  | isx (i : Nat) (c : Nat)
inductive MEs where
  | nil | cons (e : ME) (es : MEs)
inductive MO where
  | none | some (e : ME)
inductive MCs where
  | nil | cons (o : COp) (e : ME) (r : MCs)
inductive MI where
  | seq (e : ME) | rng1 (e : ME) | rng2 (a b : ME) | rng3 (a b c : ME) | enum (e : ME) | zip (a b : ME) | revd (e : ME)
end

mutual
inductive MS where
  | set (t : MT) (e : ME)
  | shr (i : Nat) (e : ME)
  | par (i j : Nat) (a b : ME)
  | aug (i : Nat) (o : BOp) (e : ME)
  | seti (x ix e : ME)
  | augi (x ix : ME) (o : BOp) (e : ME)
  | appop (x y i : ME)
  | fork (t : MT) (i : Nat) (b : MSs)
  | app (x e : ME)
  | ext (x e : ME)
  | pop (x : ME)
  | expr (e : ME)
  | ite (c : ME) (a b : MSs)
  | while (c : ME) (b : MSs)
  | for (t : MT) (it : MI) (b : MSs)
  | ret (e : ME)
  | retN
  | raise (x : Str) (c : Nat) (e : ME)
  | try (b : MSs) (hs : MHs)
  | pass | brk | cnt
inductive MSs where
  | nil | cons (s : MS) (r : MSs)
inductive MHs where
  | nil | cons (x : Str) (cs no : List Nat) (i : Nat) (b : MSs) (r : MHs)
end

/-! ### plain operations -/
mutual
def deq : D → D → Bool
  | .non, .non => true
  | .bl a, .bl b => a == b
  | .bl a, .int j => (if a then 1 else 0) == j
  | .int i, .bl b => i == (if b then 1 else 0)
  | .int i, .int j => i == j
  | .str x, .str y => x == y
  | .lst xs, .lst ys => deqs xs ys
  | .tup xs, .tup ys => deqs xs ys
  | _, _ => false
def deqs : List D → List D → Bool
  | [], [] => true
  | x :: xs, y :: ys => deq x y && deqs xs ys
  | _, _ => false
end
mutual
/-- data that may be compared: no shared list, no error; not too deep -/
def dat : Nat → D → Bool
  | _, .non => true
  | _, .bl _ => true
  | _, .int _ => true
  | _, .str x => PyData.canLay0 (.str x)
  | n + 1, .tup ds => dats n ds
  | n + 1, .lst ds => dats n ds
  | _, _ => false
def dats : Nat → List D → Bool
  | _, [] => true
  | n, d :: ds => dat n d && dats n ds
end
def line : Nat := 16777216
def mulOk (i j : Int) : Bool := decide (i.natAbs < 2 ^ 64) || decide (j.natAbs < 2 ^ 64) || decide (i.natAbs.log2 + j.natAbs.log2 < 1000000)
def divOk (j : Int) : Bool := decide (j ≠ 0) && decide (j.natAbs.log2 < 9000)
def powOk (a n : Int) : Bool := decide (0 ≤ n) && ((decide (n ≤ 1000000) && decide (a.natAbs < 2 ^ 64)) || (decide (n ≤ 1000) && decide (a.natAbs.log2 < 100000)))

def intsOf : List D → Option (List Int)
  | [] => some []
  | .int i :: r => (intsOf r).map (i :: ·)
  | _ :: _ => none
def blsOf : List D → Option (List Bool)
  | [] => some []
  | .bl i :: r => (blsOf r).map (i :: ·)
  | _ :: _ => none

def binD : BOp → D → D → Option RV
  | .add, .int i, .int j => some (.val (.int (i + j)))
  | .add, .tup xs, .tup ys => if xs.length + ys.length ≤ line then some (.val (.tup (xs ++ ys))) else none
  | .add, .lst xs, .lst ys => if xs.length + ys.length ≤ line then some (.own (xs ++ ys)) else none
  | .add, .str x, .str y => if x.length + y.length ≤ line then some (.val (.str (x ++ y))) else none
  | .sub, .int i, .int j => some (.val (.int (i - j)))
  | .mul, .int i, .int j => if mulOk i j then some (.val (.int (i * j))) else none
  | .mul, .lst xs, .int k => if (-(2 ^ 62) < k ∧ k < 2 ^ 62) ∧ xs.length * k.toNat ≤ line then some (.own (List.replicate k.toNat xs).flatten) else none
  | .mul, .tup xs, .int k => if xs.length ≤ 1000 ∧ k ≤ 1000 ∧ xs ≠ [] ∧ -1000000 ≤ k then some (.val (.tup (List.replicate k.toNat xs).flatten)) else none
  | .fdiv, .int i, .int j => if divOk j then some (.val (.int (i.fdiv j))) else none
  | .mod, .int i, .int j => if j = 0 then none else some (.val (.int (i.fmod j)))
  | .pow, .int i, .int j => if powOk i j then some (.val (.int (i ^ j.toNat))) else none
  | _, _, _ => none

def isMem (d : D) (ds : List D) : Bool := ds.any fun e => deq e d
def keyOf : D → Option Key
  | .int i => some (.inl i)
  | .str x => some (.inr x)
  | _ => none
def kget : List (Key × D) → Key → Option D
  | [], _ => none
  | (k, v) :: r, q => if k = q then some v else kget r q
def kput (kvs : List (Key × D)) (q : Key) (v : D) : List (Key × D) :=
  if (kvs.any fun kv => decide (kv.1 = q)) = true then kvs.map (fun kv => if kv.1 = q then (kv.1, v) else kv) else kvs ++ [(q, v)]

def D.isNon : D → Bool
  | .non => true
  | _ => false
def cmpD : COp → D → D → Option Bool
  | .lt, .int i, .int j => some (decide (i < j))
  | .le, .int i, .int j => some (decide (i ≤ j))
  | .gt, .int i, .int j => some (decide (j < i))
  | .ge, .int i, .int j => some (decide (j ≤ i))
  | .eq, d, e => if dat 60 d && dat 60 e then some (deq d e) else none
  | .ne, d, e => if dat 60 d && dat 60 e then some (!deq d e) else none
  | .isin, d, .tup ds => if dat 60 d && dats 60 ds then some (isMem d ds) else none
  | .isin, d, .lst ds => if dat 60 d && dats 60 ds then some (isMem d ds) else none
  | .notin, d, .tup ds => if dat 60 d && dats 60 ds then some (!isMem d ds) else none
  | .notin, d, .lst ds => if dat 60 d && dats 60 ds then some (!isMem d ds) else none
  | .is, d, .non => some d.isNon
  | .isnot, d, .non => some (!d.isNon)
  | _, _, _ => none

def truth : D → Option Bool
  | .bl b => some b
  | .int i => some (i != 0)
  | .lst ds => some (!ds.isEmpty)
  | .tup ds => some (!ds.isEmpty)
  | .non => some false
  | _ => none

def isTy : Ty → D → Option Bool
  | .tup, d => match d with | .tup _ => some true | .ref _ => none | _ => some false
  | .lst, d => match d with | .lst _ => some true | .ref _ => none | _ => some false
  | .int, d => match d with | .int _ => some true | .bl _ => some true | .ref _ => none | _ => some false
  | .bl, d => match d with | .bl _ => some true | .ref _ => none | _ => some false
  | .str, d => match d with | .str _ => some true | .ref _ => none | _ => some false

/-- the place of an index of any sign -/
def ixP (n : Nat) (i : Int) : Option Nat := if 0 ≤ i then (if i < n then some i.toNat else none) else if -(n : Int) ≤ i then some (i + n).toNat else none
def atD (ds : List D) (i : Int) : Option D := (ixP ds.length i).bind fun j => ds[j]?
/-- the ends of a slice -/
def sEnd (n d : Nat) : Option Int → Nat
  | none => d
  | some i => if i < 0 then (i + n).toNat else min i.toNat n
def cutD (ds : List D) (lo hi : Option Int) : List D := (ds.drop (sEnd ds.length 0 lo)).take (sEnd ds.length ds.length hi - sEnd ds.length 0 lo)

def insD (i : Int) : List Int → List Int
  | [] => [i]
  | j :: r => if i ≤ j then i :: j :: r else j :: insD i r
def sortD : List Int → List Int
  | [] => []
  | i :: r => insD i (sortD r)

def idxD (s : S) : D → D → Option D
  | .tup ds, .int i => atD ds i
  | .lst ds, .int i => atD ds i
  | .ref k, .int i => (s.h[k]?).bind fun ds => atD ds i
  | .str x, .int i => if x.length ≤ line then (ixP x.cps.toList.length i).bind fun j => (x.cps.toList[j]?).map fun c => .str ⟨#[c]⟩ else none
  | _, _ => none

def bltD (b : Bl) (ds : List D) : Option RV :=
  match b, ds with
  | .len, [.tup xs] => some (.val (.int xs.length))
  | .len, [.lst xs] => some (.val (.int xs.length))
  | .len, [.str x] => if x.length ≤ line then some (.val (.int x.length)) else none
  | .abs, [.int i] => some (.val (.int (if i < 0 then -i else i)))
  | .int, [.int i] => some (.val (.int i))
  | .int, [.bl k] => some (.val (.int (if k then 1 else 0)))
  | .max2, [.int i, .int j] => some (.val (.int (if j > i then j else i)))
  | .min2, [.int i, .int j] => some (.val (.int (if j < i then j else i)))
  | .sum, [.lst xs] => (intsOf xs).map fun ns => .val (.int ns.sum)
  | .all, [.lst xs] => (blsOf xs).map fun bs => .val (.bl (bs.all id))
  | .any, [.lst xs] => (blsOf xs).map fun bs => .val (.bl (bs.any id))
  | .tuple, [.lst xs] => some (.val (.tup xs))
  | .tuple, [.tup xs] => some (.val (.tup xs))
  | .list, [.lst xs] => some (.own xs)
  | .list, [.tup xs] => some (.own xs)
  | .sorted, [.lst xs] => (intsOf xs).map fun ns => .own ((sortD ns).map D.int)
  | .sum, [.tup xs] => (intsOf xs).map fun ns => .val (.int ns.sum)
  | .max1, [.lst xs] => (intsOf xs).bind fun ns => ns.max?.map fun m => .val (.int m)
  | .max1, [.tup xs] => (intsOf xs).bind fun ns => ns.max?.map fun m => .val (.int m)
  | .min1, [.lst xs] => (intsOf xs).bind fun ns => ns.min?.map fun m => .val (.int m)
  | .min1, [.tup xs] => (intsOf xs).bind fun ns => ns.min?.map fun m => .val (.int m)
  | .bits, [.int i] => some (.val (.int (if i = 0 then 0 else i.natAbs.log2 + 1)))
  | _, _ => none

/-- the content of a result, for a look at it -/
def RV.pk : RV → Option D
  | .val d => some d
  | .own ds => some (.lst ds)
  | .loc _ ds => some (.lst ds)
  | _ => none
/-- a result as a value that stays -/
def RV.vl (s : S) : RV → Option (D × S)
  | .val d => some (d, s)
  | .own ds => some (.lst ds, s)
  | .loc i ds => some (.lst ds, { s with t := s.t.set i (some (.val (.lst ds))) })
  | _ => none
def toP (r : Res RV) : Res D := r.bind fun v s => match v.pk with | some d => .ok d s | none => .bad
def toV (r : Res RV) : Res D := r.bind fun v s => match v.vl s with | some (d, s') => .ok d s' | none => .bad
def toB (r : Res D) : Res Bool := r.bind fun v s => match v with | .bl b => .ok b s | _ => .bad
def toT (r : Res D) : Res Bool := r.bind fun v s => match truth v with | some b => .ok b s | none => .bad
def toI (r : Res D) : Res Int := r.bind fun v s => match v with | .int i => .ok i s | _ => .bad
def toL (r : Res D) : Res (List D) := r.bind fun v s => match v with | .lst ds => .ok ds s | .tup ds => .ok ds s | _ => .bad
def toLL (r : Res D) : Res (List D) := r.bind fun v s => match v with | .lst ds => .ok ds s | _ => .bad
def ofO {α : Type} (o : Option α) (s : S) : Res α := match o with | some a => .ok a s | none => .bad

def slGet (s : S) (i : Nat) : Res RV :=
  match s.t[i]? with
  | some (some (.val d)) => .ok (.val d) s
  | some (some (.own ds)) => .ok (.loc i ds) s
  | some (some (.dct kvs)) => .ok (.ldc i kvs) s
  | some (some (.ldk kvs)) => .ok (.ldc i kvs) s
  | _ => .bad
def setAll (t : List (Option Sl)) : List Nat → List D → Option (List (Option Sl))
  | [], [] => some t
  | i :: is, d :: ds => setAll (t.set i (some (.val d))) is ds
  | _, _ => none
def bindT (tg : MT) (d : D) (s : S) : Option S :=
  match tg with
  | .name i => some { s with t := s.t.set i (some (.val d)) }
  | .tup is => match d with
    | .tup ds => (setAll s.t is ds).map fun t => { s with t := t }
    | _ => none
def MT.ids : MT → List Nat
  | .name i => [i]
  | .tup is => is
def wipeT (t : List (Option Sl)) : List Nat → List (Option Sl)
  | [] => t
  | i :: is => (wipeT t is).set i none
/-- the dict of a slot -/
def dctAt (r : RV) (s : S) : Option (List (Key × D)) := match r with
  | .ldc i _ => match s.t[i]? with
    | some (some (.dct kvs)) => some kvs
    | some (some (.ldk kvs)) => some kvs
    | _ => none
  | _ => none
def keyD : Key → D
  | .inl i => .int i
  | .inr x => .str x
/-- each int once -/
def once : List Int → List Int
  | [] => []
  | i :: r => if i ∈ r then once r else i :: once r
/-- the slots at places of a list as in another one -/
def backT (t t0 : List (Option Sl)) : List Nat → List (Option Sl)
  | [] => t
  | i :: is => (backT t t0 is).set i (match t0[i]? with | some (some (.val d)) => some (.val d) | _ => none)
def Sl.calm : Option Sl → Option Sl
  | some (.exc _ _) => none
  | x => x
def noExc (s : S) : S := { s with t := s.t.map Sl.calm }

def lcGo (f : D → S → Res (Option D)) : List D → List D → S → Res (List D)
  | acc, [], s => .ok acc s
  | acc, d :: ds, s => match f d s with
    | .ok none s1 => lcGo f acc ds s1
    | .ok (some e) s1 => if acc.length < line then lcGo f (acc ++ [e]) ds s1 else .bad
    | _ => .bad

/-- two clauses: f gives the second source's items, ft is a turn of the second -/
def lcGo2 (f : D → S → Res (Option (List D))) (ft : D → S → Res (Option D)) : List D → List D → S → Res (List D)
  | acc, [], s => .ok acc s
  | acc, d :: ds, s => match f d s with
    | .ok none s1 => lcGo2 f ft acc ds s1
    | .ok (some items) s1 => match lcGo ft acc items s1 with
      | .ok acc1 s2 => lcGo2 f ft acc1 ds s2
      | _ => .bad
    | _ => .bad

def rangeD (lo : Int) (n : Nat) : List D := (List.range n).map fun (k : Nat) => D.int (lo + (k : Int))
def rangeC (lo c : Int) (n : Nat) : List D := (List.range n).map fun (k : Nat) => D.int (lo + (k : Int) * c)
def smallI (i : Int) : Bool := decide (-(2 ^ 62) ≤ i) && decide (i < 2 ^ 62)
/-- how many turns range(lo, hi, c) has -/
def turnsC (lo hi c : Int) : Nat := (Builtin.Range.rangeSize lo hi c).toNat
def enumD (n : Nat) : List D → List D
  | [] => []
  | d :: ds => .tup [.int n, d] :: enumD (n + 1) ds
def zipD : List D → List D → List D
  | a :: as, b :: bs => .tup [a, b] :: zipD as bs
  | _, _ => []
def zipR : D → D → S → Res (List D)
  | .lst ds, .lst es, s => .ok (zipD ds es) s
  | .tup ds, .tup es, s => .ok (zipD ds es) s
  | _, _, _ => .bad

section
variable (Φ : Fns)
mutual
noncomputable def ev : ME → S → Res RV
  | .var i, s => slGet s i
  | .cst d, s => .ok (.val d) s
  | .glb _ n, s => .ok (.val (.int n)) s
  | .tup es, s => (evs false es s).bind fun ds s => .ok (.val (.tup ds)) s
  | .lst es, s => (evs false es s).bind fun ds s => .ok (.own ds) s
  | .bin o a b, s => (toP (ev a s)).bind fun x s => (toP (ev b s)).bind fun y s => ofO (binD o x y) s
  | .neg a, s => (toI (toP (ev a s))).bind fun i s => .ok (.val (.int (-i))) s
  | .not a, s => (toB (toP (ev a s))).bind fun b s => .ok (.val (.bl (!b))) s
  | .bop c es, s => (evB c es s).bind fun b s => .ok (.val (.bl b)) s
  | .cmp a cs, s => (toP (ev a s)).bind fun x s => (evC x cs s).bind fun b s => .ok (.val (.bl b)) s
  | .call f es, s => (evs false es s).bind fun ds s => match Φ f ds s.h with
    | .ok (.val d) h => .ok (.val d) { s with h := h }
    | .ok (.own l) h => .ok (.own l) { s with h := h }
    | .ok (.dct l) h => .ok (.dct l) { s with h := h }
    | .exc c d h => .exc c d { s with h := h }
    | _ => .bad
  | .blt b es, s => (evs true es s).bind fun ds s => ofO (bltD b ds) s
  | .isi a t, s => (toP (ev a s)).bind fun x s => match isTy t x with | some b => .ok (.val (.bl b)) s | none => .bad
  | .idx a b, s => (toP (ev a s)).bind fun x s => (toP (ev b s)).bind fun y s => match idxD s x y with | some d => .ok (.val d) s | none => .bad
  | .slc a lo hi, s => (toP (ev a s)).bind fun x s => (evO lo s).bind fun l s => (evO hi s).bind fun u s => match x with
    | .tup ds => .ok (.val (.tup (cutD ds l u))) s
    | .lst ds => .ok (.own (cutD ds l u)) s
    | _ => .bad
  | .rev a, s => (toP (ev a s)).bind fun x s => match x with
    | .tup ds => .ok (.val (.tup ds.reverse)) s
    | .lst ds => .ok (.own ds.reverse) s
    | _ => .bad
  | .dct0, s => .ok (.dct []) s
  | .dct1 q d, s => .ok (.dct [(q, d)]) s
  | .din n a x, s => (toP (ev a s)).bind fun q s => (ev x s).bind fun r s => match keyOf q, dctAt r s with
    | some q, some kvs => .ok (.val (.bl (if n then !(kget kvs q).isSome else (kget kvs q).isSome))) s
    | _, _ => .bad
  | .dix x k, s => (ev x s).bind fun r s => (toP (ev k s)).bind fun q s => match keyOf q, dctAt r s with
    | some q, some kvs => (match kget kvs q with | some d => .ok (.val d) s | none => .bad)
    | _, _ => .bad
  | .dgt x k e, s => (ev x s).bind fun r s => match dctAt r s with
    | none => .bad
    | some _ => (toP (ev k s)).bind fun q s => (toV (ev e s)).bind fun d s => match keyOf q, dctAt r s with
      | some q, some kvs => .ok (.val ((kget kvs q).getD d)) s
      | _, _ => .bad
  | .sset a, s => (toP (ev a s)).bind fun x s => match x with
    | .lst ds => (match intsOf ds with | some ns => if ns.length < 60 then .ok (.own ((sortD (once ns)).map D.int)) s else .bad | none => .bad)
    | _ => .bad
  | .lrng a, s => (toI (toP (ev a s))).bind fun i s => if decide (i ≤ 1000000) && decide (-1000000 ≤ i) then .ok (.own (rangeD 0 i.toNat)) s else .bad
  | .trng a b, s => (toI (toP (ev a s))).bind fun i s => (toI (toP (ev b s))).bind fun j s => if (decide (i ≤ 1000000) && decide (-1000000 ≤ i)) && (decide (j ≤ 1000000) && decide (-1000000 ≤ j)) then .ok (.val (.tup (rangeD i (j - i).toNat))) s else .bad
  | .lc elt tg it cond, s => (evI it s).bind fun items s =>
      match lcGo (fun d s1 => match bindT tg d { s1 with t := wipeT s1.t tg.ids } with
        | none => .bad
        | some s2 => (evCond cond s2).bind fun b s3 => if b then (toV (ev elt s3)).bind fun e s4 => .ok (some e) s4 else .ok none s3) [] items s with
      | .ok ds s1 => .ok (.own ds) { s1 with t := backT s1.t s.t tg.ids }
      | _ => .bad
  | .lc2 elt tg it cond tg1 it1 cond1, s => (evI it s).bind fun items s =>
      match lcGo2 (fun d s1 => match bindT tg d { s1 with t := wipeT s1.t (tg.ids ++ tg1.ids) } with
        | none => .bad
        | some s2 => (evCond cond s2).bind fun b s3 => if b then (evI it1 s3).bind fun items s4 => .ok (some items) s4 else .ok none s3)
        (fun d s1 => match bindT tg1 d { s1 with t := wipeT s1.t tg1.ids } with
        | none => .bad
        | some s2 => (evCond cond1 s2).bind fun b s3 => if b then (toV (ev elt s3)).bind fun e s4 => .ok (some e) s4 else .ok none s3) [] items s with
      | .ok ds s1 => .ok (.own ds) { s1 with t := backT s1.t s.t (tg.ids ++ tg1.ids) }
      | _ => .bad
  | .fld i, s => match s.t[i]? with
    | some (some (.exc _ d)) => .ok (.val d) s
    | _ => .bad
  | .isx i c, s => match s.t[i]? with
    | some (some (.exc c' _)) => .ok (.val (.bl (c == c'))) s
    | _ => .bad
noncomputable def evs (pk : Bool) : MEs → S → Res (List D)
  | .nil, s => .ok [] s
  | .cons e es, s => (if pk then toP (ev e s) else toV (ev e s)).bind fun d s => (evs pk es s).bind fun ds s => .ok (d :: ds) s
noncomputable def evB (c : Bool) : MEs → S → Res Bool
  | .nil, s => .bad
  | .cons e es, s => (toB (toP (ev e s))).bind fun b s => match es with
    | .nil => .ok b s
    | .cons _ _ => if b = c then evB c es s else .ok b s
noncomputable def evC : D → MCs → S → Res Bool
  | _, .nil, s => .bad
  | x, .cons o e r, s => (toP (ev e s)).bind fun y s => match cmpD o x y with
    | none => .bad
    | some b => match r with
      | .nil => .ok b s
      | .cons _ _ _ => if b then evC y r s else .ok false s
noncomputable def evO : MO → S → Res (Option Int)
  | .none, s => .ok none s
  | .some e, s => (toI (toP (ev e s))).bind fun i s => .ok (some i) s
noncomputable def evCond : MO → S → Res Bool
  | .none, s => .ok true s
  | .some e, s => toT (toP (ev e s))
noncomputable def evI : MI → S → Res (List D)
  | .seq e, s => toL (toV (ev e s))
  | .rng1 e, s => (toI (toP (ev e s))).bind fun i s => if smallI i then .ok (rangeD 0 i.toNat) s else .bad
  | .rng2 a b, s => (toI (toP (ev a s))).bind fun i s => (toI (toP (ev b s))).bind fun j s => if smallI i && smallI j then .ok (rangeD i (j - i).toNat) s else .bad
  | .rng3 a b c, s => (toI (toP (ev a s))).bind fun i s => (toI (toP (ev b s))).bind fun j s => (toI (toP (ev c s))).bind fun k s =>
      if decide (k ≠ 0) && decide (k.natAbs < 1073741824) && Builtin.Range.small i j k then .ok (rangeC i k (turnsC i j k)) s else .bad
  | .enum e, s => (toLL (toV (ev e s))).bind fun ds s => .ok (enumD 0 ds) s
  | .zip a b, s => (toV (ev a s)).bind fun x s => (toV (ev b s)).bind fun y s => zipR x y s
  | .revd e, s => (toL (toV (ev e s))).bind fun ds s => .ok ds.reverse s
end

/-! ### statements -/
def iterF {α β : Type} (f : α → α ⊕ β) : Nat → α → Option β
  | 0, _ => none
  | n + 1, a => match f a with
    | .inr b => some b
    | .inl a' => iterF f n a'
open Classical in
noncomputable def fixF {α β : Type} (f : α → α ⊕ β) (a : α) : Option β := if h : ∃ n b, iterF f n a = some b then some h.choose_spec.choose else none

def forGo (f : D → S → Option S) (body : S → R) : List D → S → R
  | [], s => .next s
  | d :: ds, s => match f d s with
    | none => .bad
    | some s1 => match body s1 with
      | .next s2 => forGo f body ds s2
      | .cnt s2 => forGo f body ds s2
      | .brk s2 => .next s2
      | r => r

noncomputable def putR (i : Nat) (r : RV) (s : S) : R :=
  match r with
  | .val d => .next { s with t := s.t.set i (some (.val d)) }
  | .own ds => .next { s with t := s.t.set i (some (.own ds)) }
  | .dct ds => .next { s with t := s.t.set i (some (.dct ds)) }
  | .loc j ds => .next { s with t := (s.t.set j (some (.val (.lst ds)))).set i (some (.val (.lst ds))) }
  | .ldc _ _ => .bad

/-- the name of a held error goes -/
def outExc (i : Nat) (s : S) : S := { s with t := (noExc s).t.set i none }
/-- what an error may carry -/
def smallD : D → Bool
  | .str x => decide (x.length ≤ 1000)
  | _ => false
/-- x[k] = d -/
def putAt (r : RV) (k d : D) (s : S) : R :=
  match r with
  | .val (.ref c) => match k, s.h[c]? with
    | .int k, some ds => match ixP ds.length k with
      | some j => .next { s with h := s.h.set c (ds.set j d) }
      | none => .bad
    | _, _ => .bad
  | .loc i _ => match k, s.t[i]? with
    | .int k, some (some (.own ds)) => match ixP ds.length k with
      | some j => .next { s with t := s.t.set i (some (.own (ds.set j d))) }
      | none => .bad
    | _, _ => .bad
  | .ldc i _ => match keyOf k, s.t[i]? with
    | some q, some (some (.dct kvs)) => if kvs.length < line then .next { s with t := s.t.set i (some (.dct (kput kvs q d))) } else .bad
    | _, _ => .bad
  | _ => .bad
def isLst : RV → Bool
  | .val (.ref _) => true
  | .loc _ _ => true
  | _ => false
/-- x.append(d) -/
def pushAt (r : RV) (d : D) (s : S) : R :=
  match r with
  | .val (.ref c) => match s.h[c]? with
    | some ds => if ds.length < line then .next { s with h := s.h.set c (ds ++ [d]) } else .bad
    | _ => .bad
  | .loc i _ => match s.t[i]? with
    | some (some (.own ds)) => if ds.length < line then .next { s with t := s.t.set i (some (.own (ds ++ [d]))) } else .bad
    | _ => .bad
  | _ => .bad
/-- the items of an unshared list -/
def RV.items : RV → Option (List D)
  | .own ds => some ds
  | .loc _ ds => some ds
  | _ => none
/-- x.extend(es) -/
def pushAll (r : RV) (es : List D) (s : S) : R :=
  match r with
  | .val (.ref c) => match s.h[c]? with
    | some ds => if ds.length + es.length ≤ line then .next { s with h := s.h.set c (ds ++ es) } else .bad
    | _ => .bad
  | .loc i _ => match s.t[i]? with
    | some (some (.own ds)) => if ds.length + es.length ≤ line then .next { s with t := s.t.set i (some (.own (ds ++ es))) } else .bad
    | _ => .bad
  | _ => .bad
/-- x.pop() -/
def popAt (r : RV) (s : S) : R :=
  match r with
  | .val (.ref c) => match s.h[c]? with
    | some ds => if 0 < ds.length then .next { s with h := s.h.set c ds.dropLast } else .bad
    | _ => .bad
  | .loc i _ => match s.t[i]? with
    | some (some (.own ds)) => if 0 < ds.length then .next { s with t := s.t.set i (some (.own ds.dropLast)) } else .bad
    | _ => .bad
  | _ => .bad
/-- x[k], where x is a list or a dict that may be written -/
def getAt (r : RV) (k : D) (s : S) : Option D :=
  match r with
  | .val (.ref c) => match k, s.h[c]? with
    | .int k, some ds => (ixP ds.length k).bind fun j => ds[j]?
    | _, _ => none
  | .loc i _ => match k, s.t[i]? with
    | .int k, some (some (.own ds)) => (ixP ds.length k).bind fun j => ds[j]?
    | _, _ => none
  | .ldc i _ => match keyOf k, s.t[i]? with
    | some q, some (some (.dct kvs)) => kget kvs q
    | _, _ => none
  | _ => none
/-- x.append(y.pop(k)), both own lists of slots -/
def appopAt (r r2 : RV) (k : Int) (s : S) : R :=
  match r, r2 with
  | .loc i _, .loc j _ => if i = j then .bad else match s.t[i]?, s.t[j]? with
    | some (some (.own ds)), some (some (.own es)) => if smallI k then match ixP es.length k with
      | some n => match es[n]? with
        | some d => if ds.length < line then .next { s with t := (s.t.set j (some (.own (es.eraseIdx n)))).set i (some (.own (ds ++ [d]))) } else .bad
        | none => .bad
      | none => .bad
      else .bad
    | _, _ => .bad
  | _, _ => .bad
/-- no dict is being walked -/
def noLdk (s : S) : Bool := s.t.all fun x => match x with
  | some (.ldk _) => false
  | _ => true
/-- behind a walk over a dict -/
def endK (i : Nat) : R → R
  | .next s => match s.t[i]? with
    | some (some (.ldk kvs)) => .next { s with t := s.t.set i (some (.dct kvs)) }
    | _ => .bad
  | _ => .bad
/-- x op= y on ints -/
def augD : BOp → D → D → Option Int
  | .add, .int i, .int j => some (i + j)
  | .sub, .int i, .int j => some (i - j)
  | _, _, _ => none

mutual
noncomputable def ex : MS → S → R
  | .set (.name i) e, s => (ev Φ e s).run fun r s => putR i r s
  | .set (.tup is) e, s => (toV (ev Φ e s)).run fun d s => match bindT (.tup is) d s with | some s => .next s | none => .bad
  | .shr i e, s => (ev Φ e s).run fun r s => match r with
    | .own ds => .next { t := s.t.set i (some (.val (.ref s.h.length))), h := s.h ++ [ds] }
    | _ => .bad
  | .par i j a b, s => (toV (ev Φ a s)).run fun x s => (toV (ev Φ b s)).run fun y s => .next { s with t := (s.t.set i (some (.val x))).set j (some (.val y)) }
  | .aug i o e, s => (toP (slGet s i)).run fun x s => (toP (ev Φ e s)).run fun y s => match augD o x y with
    | some z => .next { s with t := s.t.set i (some (.val (.int z))) }
    | none => .bad
  | .seti x ix e, s => (toV (ev Φ e s)).run fun d s => (ev Φ x s).run fun r s => (toP (ev Φ ix s)).run fun k s => putAt r k d s
  | .augi x ix o e, s => (ev Φ x s).run fun r s => (toP (ev Φ ix s)).run fun k s => match getAt r k s with
    | none => .bad
    | some a => (toP (ev Φ e s)).run fun y s => match augD o a y with
      | some z => putAt r k (.int z) s
      | none => .bad
  | .appop x y i, s => (ev Φ x s).run fun r s => if isLst r then (ev Φ y s).run fun r2 s => if isLst r2 then (toI (toP (ev Φ i s))).run fun k s => appopAt r r2 k s else .bad else .bad
  | .fork t i b, s => match s.t[i]? with
    | some (some (.dct kvs)) => if noLdk s then endK i (forGo (bindT t) (fun s => exs b s) (kvs.map fun q => keyD q.1) { s with t := s.t.set i (some (.ldk kvs)) }) else .bad
    | _ => .bad
  | .app x e, s => (ev Φ x s).run fun r s => if isLst r then (toV (ev Φ e s)).run fun d s => pushAt r d s else .bad
  | .ext x e, s => (ev Φ x s).run fun r s => if isLst r then (ev Φ e s).run fun r2 s => match r2.items with
      | some es => pushAll r es s
      | none => .bad
    else .bad
  | .pop x, s => (ev Φ x s).run fun r s => popAt r s
  | .expr e, s => (ev Φ e s).run fun _ s => .next s
  | .ite c a b, s => (toT (toP (ev Φ c s))).run fun k s => if k then exs a s else exs b s
  | .while c b, s => (fixF (fun s : S => match toT (toP (ev Φ c s)) with
      | .ok false s1 => .inr (.next s1)
      | .ok true s1 => match exs b s1 with
        | .next s2 => .inl s2
        | .cnt s2 => .inl s2
        | .brk s2 => .inr (.next s2)
        | r => .inr r
      | .exc c d s1 => .inr (.exc c d s1)
      | .bad => .inr .bad) s).getD .bad
  | .for t it b, s => (evI Φ it s).run fun ds s => forGo (bindT t) (fun s => exs b s) ds s
  | .ret e, s => (ev Φ e s).run fun r s => .ret r s
  | .retN, s => .ret (.val .non) s
  | .raise _ c e, s => (toV (ev Φ e s)).run fun d s => if smallD d then .exc c d s else .bad
  | .try b hs, s => match exs b s with
    | .exc c d s => exH c d hs s
    | r => r
  | .pass, s => .next s
  | .brk, s => .brk s
  | .cnt, s => .cnt s
noncomputable def exs : MSs → S → R
  | .nil, s => .next s
  | .cons st r, s => match ex st s with
    | .next s1 => exs r s1
    | q => q
noncomputable def exH (c : Nat) (d : D) : MHs → S → R
  | .nil, s => .exc c d s
  | .cons _ cs no i b r, s => if cs.contains c then
      match exs b { s with t := (noExc s).t.set i (some (.exc c d)) } with
      | .next s => .next (outExc i s)
      | .brk s => .brk (outExc i s)
      | .cnt s => .cnt (outExc i s)
      | .ret (.val d) s => .ret (.val d) (outExc i s)
      | .ret (.own ds) s => .ret (.own ds) (outExc i s)
      | _ => .bad
    else if no.contains c then exH c d r s else .bad
end
end

/-! ### defs -/
structure Def where
  name : Str
  ps : Nat
  n : Nat
  body : MSs
def startT (n : Nat) (ds : List D) : List (Option Sl) := ds.map (fun d => some (.val d)) ++ List.replicate (n - ds.length) none
def endV : RV → List (List D) → FR
  | .val d, h => .ok (.val d) h
  | .own ds, h => .ok (.own ds) h
  | .loc _ ds, h => .ok (.own ds) h
  | .dct kvs, h => .ok (.dct kvs) h
  | .ldc _ kvs, h => .ok (.dct kvs) h
def endB : RV → FR
  | .val (.bl b) => .ok (.val (.bl b)) []
  | _ => .bad
def endF (k : Nat) : R → FR
  | .next s => if s.h.length = k then .ok (.val .non) s.h else .bad
  | .ret r s => if s.h.length = k then endV r s.h else if k = 0 then endB r else .bad
  | .exc c d s => if s.h.length = k then .exc c d s.h else .bad
  | _ => .bad
def lookD (fs : List Def) (f : Str) : Option Def := fs.find? fun d => d.name = f
/-- the defs of a text, calls nested at most so deep -/
noncomputable def Phi (fs : List Def) : Nat → Fns
  | 0, _, _, _ => .bad
  | k + 1, f, ds, h => match lookD fs f with
    | none => .bad
    | some d => if ds.length = d.ps then endF h.length (exs (Phi fs k) d.body ⟨startT d.n ds, h⟩) else .bad
end PI

namespace PI
open PySem PySem.Spec PyProof.Rows L2

/-- what stands still of a text: the written part, the errors' classes and fields; the error that a suite holds -/
structure G where
  K : PySem.W.Frag
  C : Nat → Addr
  F : Nat → Str
  ea : Option (Addr × Value × Option Addr)
  lk : Option Addr := none
/-- what stood at the entry -/
structure B where
  Hb : Hp
  al : List Addr

/-- a list that is never written any more -/
def FzL (_ : PySem.W.Frag) (H : Hp) (a : Addr) (xs : List V) : Prop := ∃ o, H a = some (.frz o (.lst xs))
theorem FzL.rd {K : PySem.W.Frag} {H : Hp} {a : Addr} {xs : List V} (h : FzL K H a xs) : Rd H a (.lst xs) := .inr h

section
variable (K : PySem.W.Frag) (al : List Addr) (H : Hp)
mutual
def Rep : D → V → Prop
  | .non, v => v = .non
  | .bl b, v => v = .bl b
  | .int i, v => v = .int i
  | .str x, v => v = .str x
  | .tup ds, v => ∃ a vs, v = .ref a ∧ SqT K H a vs ∧ Reps ds vs
  | .lst ds, v => ∃ a vs, v = .ref a ∧ FzL K H a vs ∧ Reps ds vs
  | .ref k, v => ∃ a, al[k]? = some a ∧ v = .ref a
def Reps : List D → List V → Prop
  | [], vs => vs = []
  | d :: ds, vs => ∃ v r, vs = v :: r ∧ Rep d v ∧ Reps ds r
end
def KRep (kvs : List (Key × D)) (ws : List (Key × V)) : Prop := Paired (fun (p : Key × D) (q : Key × V) => p.1 = q.1 ∧ Rep K al H p.2 q.2) kvs ws
def PRep (d : D) (v : V) : Prop := Rep K al H d v ∨ ∃ ds a vs, d = .lst ds ∧ v = .ref a ∧ H a = some (.lst vs) ∧ Reps K al H ds vs ∧ a ∉ al
end

/-- tuples, finished lists and the errors' dicts stay -/
structure Stay (H H' : Hp) : Prop where
  tup : ∀ a xs, H a = some (.tup xs) → H' a = some (.tup xs)
  frz : ∀ a o u, H a = some (.frz o u) → H' a = some (.frz o u)
  xd : ∀ a fs, H a = some (.xd fs) → H' a = some (.xd fs)
theorem Stay.refl (H : Hp) : Stay H H := ⟨fun _ _ h => h, fun _ _ _ h => h, fun _ _ h => h⟩
theorem Stay.trans {H H1 H2 : Hp} (a : Stay H H1) (b : Stay H1 H2) : Stay H H2 :=
  ⟨fun c xs h => b.tup c xs (a.tup c xs h), fun c o u h => b.frz c o u (a.frz c o u h), fun c fs h => b.xd c fs (a.xd c fs h)⟩
theorem Stay.sqT {K : PySem.W.Frag} {H H' : Hp} (x : Stay H H') {a : Addr} {xs : List V} (h : SqT K H a xs) : SqT K H' a xs := by
  rcases h with (h | ⟨o, h⟩) | h
  · exact .inl (.inl (x.tup _ _ h))
  · exact .inl (.inr ⟨o, x.frz _ _ _ h⟩)
  · exact .inr h
theorem Stay.fz {K : PySem.W.Frag} {H H' : Hp} (x : Stay H H') {a : Addr} {xs : List V} (h : FzL K H a xs) : FzL K H' a xs := by
  obtain ⟨o, h⟩ := h
  exact ⟨o, x.frz _ _ _ h⟩

section
variable {K : PySem.W.Frag} {al al' : List Addr} {H H' : Hp}
mutual
theorem Rep.stay (x : Stay H H') (ha : ∀ (k : Nat) (a : Addr), al[k]? = some a → al'[k]? = some a) : ∀ (d : D) (v : V), Rep K al H d v → Rep K al' H' d v
  | .non, v, h => by unfold Rep at h ⊢; exact h
  | .bl b, v, h => by unfold Rep at h ⊢; exact h
  | .int i, v, h => by unfold Rep at h ⊢; exact h
  | .str z, v, h => by unfold Rep at h ⊢; exact h
  | .tup ds, v, h => by
    unfold Rep at h ⊢
    obtain ⟨a, vs, e, q, r⟩ := h
    exact ⟨a, vs, e, x.sqT q, Reps.stay x ha ds vs r⟩
  | .lst ds, v, h => by
    unfold Rep at h ⊢
    obtain ⟨a, vs, e, q, r⟩ := h
    exact ⟨a, vs, e, x.fz q, Reps.stay x ha ds vs r⟩
  | .ref k, v, h => by
    unfold Rep at h ⊢
    obtain ⟨a, e, q⟩ := h
    exact ⟨a, ha k a e, q⟩
theorem Reps.stay (x : Stay H H') (ha : ∀ (k : Nat) (a : Addr), al[k]? = some a → al'[k]? = some a) : ∀ (ds : List D) (vs : List V), Reps K al H ds vs → Reps K al' H' ds vs
  | [], vs, h => by unfold Reps at h ⊢; exact h
  | d :: ds, vs, h => by
    unfold Reps at h ⊢
    obtain ⟨v, r, e, q, t⟩ := h
    exact ⟨v, r, e, Rep.stay x ha d v q, Reps.stay x ha ds r t⟩
end
theorem KRep.stay (x : Stay H H') (ha : ∀ (k : Nat) (a : Addr), al[k]? = some a → al'[k]? = some a) {kvs : List (Key × D)} {ws : List (Key × V)} (h : KRep K al H kvs ws) : KRep K al' H' kvs ws :=
  Paired.mapP h fun p q z => ⟨z.1, z.2.stay x ha⟩
theorem Reps.length : ∀ {ds : List D} {vs : List V}, Reps K al H ds vs → ds.length = vs.length
  | [], vs, h => by unfold Reps at h; rw [h] <;> rfl
  | d :: ds, vs, h => by
    unfold Reps at h
    obtain ⟨v, r, e, _, t⟩ := h
    rw [e, List.length_cons, List.length_cons, Reps.length t]
theorem Reps.append : ∀ {ds es : List D} {vs ws : List V}, Reps K al H ds vs → Reps K al H es ws → Reps K al H (ds ++ es) (vs ++ ws)
  | [], es, vs, ws, h, q => by
    unfold Reps at h; subst h; exact q
  | d :: ds, es, vs, ws, h, q => by
    unfold Reps at h
    obtain ⟨v, r, e, z, t⟩ := h
    subst e
    show Reps K al H (d :: (ds ++ es)) (v :: (r ++ ws))
    unfold Reps
    exact ⟨v, _, rfl, z, Reps.append t q⟩
theorem Reps.nil : Reps K al H [] [] := by unfold Reps; rfl
theorem Reps.cons {d : D} {ds : List D} {v : V} {vs : List V} (h : Rep K al H d v) (t : Reps K al H ds vs) : Reps K al H (d :: ds) (v :: vs) := by
  unfold Reps; exact ⟨v, vs, rfl, h, t⟩
theorem Reps.inv {d : D} {ds : List D} {vs : List V} (h : Reps K al H (d :: ds) vs) : ∃ v r, vs = v :: r ∧ Rep K al H d v ∧ Reps K al H ds r := by
  unfold Reps at h; exact h
theorem Reps.inv0 {vs : List V} (h : Reps K al H [] vs) : vs = [] := by
  unfold Reps at h; exact h
theorem Reps.get : ∀ {ds : List D} {vs : List V} {i : Nat} {d : D}, Reps K al H ds vs → ds[i]? = some d → ∃ v, vs[i]? = some v ∧ Rep K al H d v
  | [], vs, i, d, h, e => by simp at e
  | d' :: ds, vs, 0, d, h, e => by
    obtain ⟨v, r, q, z, t⟩ := h.inv
    subst q
    simp at e; subst e
    exact ⟨v, rfl, z⟩
  | d' :: ds, vs, i + 1, d, h, e => by
    obtain ⟨v, r, q, z, t⟩ := h.inv
    subst q
    obtain ⟨w, e1, e2⟩ := Reps.get (i := i) t (by simpa using e)
    exact ⟨w, by simpa using e1, e2⟩
theorem Reps.get' : ∀ {ds : List D} {vs : List V} {i : Nat} {v : V}, Reps K al H ds vs → vs[i]? = some v → ∃ d, ds[i]? = some d ∧ Rep K al H d v
  | [], vs, i, d, h, e => by rw [h.inv0] at e; simp at e
  | d' :: ds, vs, 0, w, h, e => by
    obtain ⟨v, r, q, z, t⟩ := h.inv
    subst q
    simp at e; subst e
    exact ⟨d', rfl, z⟩
  | d' :: ds, vs, i + 1, w, h, e => by
    obtain ⟨v, r, q, z, t⟩ := h.inv
    subst q
    obtain ⟨w', e1, e2⟩ := Reps.get' (i := i) t (by simpa using e)
    exact ⟨w', by simpa using e1, e2⟩
theorem Reps.set : ∀ {ds : List D} {vs : List V} {d : D} {v : V} (i : Nat), Reps K al H ds vs → Rep K al H d v → Reps K al H (ds.set i d) (vs.set i v)
  | [], vs, d, v, i, h, q => by rw [h.inv0]; exact Reps.nil
  | d' :: ds, vs, d, v, 0, h, q => by
    obtain ⟨w, r, e, z, t⟩ := h.inv
    subst e
    exact Reps.cons q t
  | d' :: ds, vs, d, v, i + 1, h, q => by
    obtain ⟨w, r, e, z, t⟩ := h.inv
    subst e
    exact Reps.cons z (Reps.set i t q)
theorem Reps.take : ∀ {ds : List D} {vs : List V} (n : Nat), Reps K al H ds vs → Reps K al H (ds.take n) (vs.take n)
  | _, _, 0, h => by simp; exact Reps.nil
  | [], vs, n + 1, h => by rw [h.inv0]; exact Reps.nil
  | d :: ds, vs, n + 1, h => by
    obtain ⟨w, r, e, z, t⟩ := h.inv
    subst e
    exact Reps.cons z (Reps.take n t)
theorem Reps.drop : ∀ {ds : List D} {vs : List V} (n : Nat), Reps K al H ds vs → Reps K al H (ds.drop n) (vs.drop n)
  | ds, vs, 0, h => by simpa using h
  | [], vs, n + 1, h => by rw [h.inv0]; exact Reps.nil
  | d :: ds, vs, n + 1, h => by
    obtain ⟨w, r, e, z, t⟩ := h.inv
    subst e
    exact Reps.drop n t
theorem Reps.reverse {ds : List D} {vs : List V} (h : Reps K al H ds vs) : Reps K al H ds.reverse vs.reverse := by
  induction ds generalizing vs with
  | nil => rw [h.inv0]; exact Reps.nil
  | cons d ds ih =>
    obtain ⟨w, r, e, z, t⟩ := h.inv
    subst e
    rw [List.reverse_cons, List.reverse_cons]
    exact (ih t).append (Reps.cons z Reps.nil)
theorem Reps.flat {ds : List D} {vs : List V} (h : Reps K al H ds vs) : ∀ k : Nat, Reps K al H (List.replicate k ds).flatten (List.replicate k vs).flatten
  | 0 => by simp; exact Reps.nil
  | k + 1 => by
    rw [List.replicate_succ, List.flatten_cons, List.replicate_succ, List.flatten_cons]
    exact h.append (h.flat k)
theorem Reps.ints : ∀ {ds : List D} {vs : List V} {ns : List Int}, Reps K al H ds vs → intsOf ds = some ns → vs = ns.map V.int
  | [], vs, ns, h, e => by
    simp [intsOf] at e; subst e; rw [h.inv0] <;> rfl
  | d :: ds, vs, ns, h, e => by
    obtain ⟨w, r, q, z, t⟩ := h.inv
    subst q
    cases d with
    | int i =>
      simp only [intsOf, Option.map_eq_some_iff] at e
      obtain ⟨ms, e1, e2⟩ := e
      subst e2
      unfold Rep at z
      rw [z, List.map_cons, Reps.ints t e1]
    | _ => simp [intsOf] at e
theorem Reps.bls : ∀ {ds : List D} {vs : List V} {ns : List Bool}, Reps K al H ds vs → blsOf ds = some ns → vs = ns.map V.bl
  | [], vs, ns, h, e => by
    simp [blsOf] at e; subst e; rw [h.inv0] <;> rfl
  | d :: ds, vs, ns, h, e => by
    obtain ⟨w, r, q, z, t⟩ := h.inv
    subst q
    cases d with
    | bl i =>
      simp only [blsOf, Option.map_eq_some_iff] at e
      obtain ⟨ms, e1, e2⟩ := e
      subst e2
      unfold Rep at z
      rw [z, List.map_cons, Reps.bls t e1]
    | _ => simp [blsOf] at e
theorem reps_ints : ∀ ns : List Int, Reps K al H (ns.map D.int) (ns.map V.int)
  | [] => Reps.nil
  | i :: r => Reps.cons (by unfold Rep; rfl) (reps_ints r)
end

/-! ### the state -/
def Sl.isOwn : Sl → Bool
  | .val _ => false
  | .exc _ _ => false
  | _ => true
section
variable (g : G) (b : B) (al : List Addr)
def SlRep (H : Hp) : Sl → V → Prop
  | .val d, v => Rep g.K al H d v
  | .own ds, v => ∃ a vs, v = .ref a ∧ H a = some (.lst vs) ∧ Reps g.K al H ds vs ∧ a ∉ al ∧ b.Hb a = none
  | .dct kvs, v => ∃ a ws, v = .ref a ∧ H a = some (.dK ws) ∧ KRep g.K al H kvs ws ∧ a ∉ al ∧ b.Hb a = none
  | .ldk kvs, v => ∃ a o ws, g.lk = some a ∧ v = .ref a ∧ H a = some (.frz o (.dK ws)) ∧ KRep g.K al H kvs ws ∧ a ∉ al ∧ b.Hb a = none
  | .exc c d, v => ∃ a dd w, g.ea = some (a, .ref (g.C c), some dd) ∧ v = .ref a ∧ H dd = some (.xd [(g.F c, w)]) ∧ Rep g.K al H d w
def Away (t : List (Option Sl)) (σ : L2.St) (a : Addr) : Prop := ∀ (i : Nat) (x : Sl), t[i]? = some (some x) → x.isOwn = true → σ[i]? ≠ some (some (V.ref a))
structure Rel (s : S) (σ : L2.St) (H : Hp) : Prop where
  len : s.t.length = σ.length
  sl : ∀ (i : Nat) (x : Sl), s.t[i]? = some (some x) → ∃ v, σ[i]? = some (some v) ∧ SlRep g b al H x v
  inj : ∀ (i j : Nat) (x y : Sl) (a : Addr), i ≠ j → s.t[i]? = some (some x) → s.t[j]? = some (some y) → x.isOwn = true → y.isOwn = true → σ[i]? = some (some (V.ref a)) → σ[j]? ≠ some (some (V.ref a))
  cell : ∀ (k : Nat) (ds : List D), s.h[k]? = some ds → ∃ a vs, al[k]? = some a ∧ H a = some (.lst vs) ∧ Reps g.K al H ds vs
  alen : al.length = s.h.length
  nd : al.Nodup
  base : ∀ a o, b.Hb a = some o → a ∉ b.al → H a = some o
  anew : ∀ a ∈ al, a ∈ b.al ∨ b.Hb a = none
  apre : ∀ (k : Nat) (a : Addr), b.al[k]? = some a → al[k]? = some a
def RVRep (s : S) (σ : L2.St) (H : Hp) : RV → V → Prop
  | .val d, v => Rep g.K al H d v
  | .own ds, v => ∃ a vs, v = .ref a ∧ H a = some (.lst vs) ∧ Reps g.K al H ds vs ∧ a ∉ al ∧ b.Hb a = none ∧ Away s.t σ a
  | .loc i ds, v => s.t[i]? = some (some (.own ds)) ∧ σ[i]? = some (some v)
  | .dct kvs, v => ∃ a ws, v = .ref a ∧ H a = some (.dK ws) ∧ KRep g.K al H kvs ws ∧ a ∉ al ∧ b.Hb a = none ∧ Away s.t σ a
  | .ldc i kvs, v => (s.t[i]? = some (some (.dct kvs)) ∨ s.t[i]? = some (some (.ldk kvs))) ∧ σ[i]? = some (some v)
end
/-- behind an expression: what stood stands, own lists may be finished -/
structure Ext (al : List Addr) (H H' : Hp) : Prop where
  st : Stay H H'
  own : ∀ a vs, a ∉ al → H a = some (.lst vs) → H' a = some (.lst vs) ∨ ∃ o, H' a = some (.frz o (.lst vs))
theorem Ext.refl {al : List Addr} {H : Hp} : Ext al H H := ⟨Stay.refl H, fun _ _ _ h => .inl h⟩
theorem Ext.trans {al : List Addr} {H H1 H2 : Hp} (x : Ext al H H1) (y : Ext al H1 H2) : Ext al H H2 :=
  ⟨x.st.trans y.st, fun a vs n h => by
    rcases x.own a vs n h with q | ⟨o, q⟩
    · exact y.own a vs n q
    · exact .inr ⟨o, y.st.frz _ _ _ q⟩⟩

section
variable {g : G} {b : B} {al : List Addr} {H H' : Hp} {s : S} {σ : L2.St}
theorem PRep.ext {d : D} {v : V} (x : Ext al H H') (h : PRep g.K al H d v) : PRep g.K al H' d v := by
  rcases h with h | ⟨ds, a, vs, rfl, rfl, e, r, n⟩
  · exact .inl (h.stay x.st fun _ _ z => z)
  · have r' := r.stay x.st (al' := al) fun _ _ z => z
    rcases x.own a vs n e with q | ⟨o, q⟩
    · exact .inr ⟨ds, a, vs, rfl, rfl, q, r', n⟩
    · refine .inl ?_
      unfold Rep
      exact ⟨a, vs, rfl, ⟨o, q⟩, r'⟩
theorem PRep.int {i : Int} {v : V} (h : PRep g.K al H (.int i) v) : v = .int i := by
  rcases h with h | ⟨_, _, _, z, _⟩
  · unfold Rep at h; exact h
  · cases z
theorem PRep.bl {i : Bool} {v : V} (h : PRep g.K al H (.bl i) v) : v = .bl i := by
  rcases h with h | ⟨_, _, _, z, _⟩
  · unfold Rep at h; exact h
  · cases z
theorem PRep.str {i : Str} {v : V} (h : PRep g.K al H (.str i) v) : v = .str i := by
  rcases h with h | ⟨_, _, _, z, _⟩
  · unfold Rep at h; exact h
  · cases z
theorem PRep.non {v : V} (h : PRep g.K al H .non v) : v = .non := by
  rcases h with h | ⟨_, _, _, z, _⟩
  · unfold Rep at h; exact h
  · cases z
theorem PRep.tup {ds : List D} {v : V} (h : PRep g.K al H (.tup ds) v) : ∃ a vs, v = .ref a ∧ SqT g.K H a vs ∧ Reps g.K al H ds vs := by
  rcases h with h | ⟨_, _, _, z, _⟩
  · unfold Rep at h; exact h
  · cases z
theorem PRep.lst {ds : List D} {v : V} (h : PRep g.K al H (.lst ds) v) : ∃ a vs, v = .ref a ∧ Rd H a (.lst vs) ∧ Reps g.K al H ds vs := by
  rcases h with h | ⟨_, a, vs, z, rfl, e, r, _⟩
  · unfold Rep at h
    obtain ⟨a, vs, e, f, r⟩ := h
    exact ⟨a, vs, e, f.rd, r⟩
  · cases z
    exact ⟨a, vs, rfl, .of e, r⟩
theorem PRep.ref {k : Nat} {v : V} (h : PRep g.K al H (.ref k) v) : ∃ a, al[k]? = some a ∧ v = .ref a := by
  rcases h with h | ⟨_, _, _, z, _⟩
  · unfold Rep at h; exact h
  · cases z

theorem Rel.alTracked (r : Rel g b al s σ H) {a : Addr} (h : a ∈ al) : ∃ vs, H a = some (.lst vs) := by
  obtain ⟨k, hk, e⟩ := List.mem_iff_getElem.mp h
  have hk' : k < s.h.length := by rw [← r.alen]; exact hk
  obtain ⟨a', vs, e1, e2, _⟩ := r.cell k (s.h[k]) (by simp [hk'])
  have : al[k]? = some a := by rw [List.getElem?_eq_getElem hk, e]
  rw [this] at e1; cases e1
  exact ⟨vs, e2⟩
theorem Rel.newBase (r : Rel g b al s σ H) {p : Addr} (h : H p = none) : b.Hb p = none := by
  cases q : b.Hb p with
  | none => rfl
  | some o =>
    by_cases hp : p ∈ b.al
    · obtain ⟨k, hk, e⟩ := List.mem_iff_getElem.mp hp
      have := r.apre k p (by rw [List.getElem?_eq_getElem hk, e])
      obtain ⟨vs, z⟩ := r.alTracked (List.mem_of_getElem? this)
      rw [h] at z; cases z
    · have := r.base p o q hp
      rw [h] at this; cases this
theorem Rel.notAl (r : Rel g b al s σ H) {p : Addr} (h : H p = none) : p ∉ al := fun hp => by
  obtain ⟨vs, z⟩ := r.alTracked hp
  rw [h] at z; cases z
theorem stay_upd {p : Addr} {o : HO} (h : H p = none) : Stay H (upd H p o) :=
  ⟨fun a xs e => by rw [upd_ne (ne_of_none e h)]; exact e, fun a xs u e => by rw [upd_ne (ne_of_none e h)]; exact e, fun a fs e => by rw [upd_ne (ne_of_none e h)]; exact e⟩
theorem ext_upd {p : Addr} {o : HO} (h : H p = none) : Ext al H (upd H p o) :=
  ⟨stay_upd h, fun a vs _ e => .inl (by rw [upd_ne (ne_of_none e h)]; exact e)⟩
/-- a heap with more in it -/
theorem Rel.more (r : Rel g b al s σ H) (k : ∀ a o, H a = some o → H' a = some o) : Rel g b al s σ H' := by
  have st : Stay H H' := ⟨fun a xs e => k _ _ e, fun a o u e => k _ _ e, fun a fs e => k _ _ e⟩
  refine ⟨r.len, fun i x e => ?_, r.inj, fun c ds e => ?_, r.alen, r.nd, fun a o e n => k _ _ (r.base a o e n), r.anew, r.apre⟩
  · obtain ⟨v, e1, q⟩ := r.sl i x e
    refine ⟨v, e1, ?_⟩
    cases x with
    | val d => exact q.stay st fun _ _ z => z
    | own ds =>
      obtain ⟨a, vs, ev, h1, h2, h3⟩ := q
      exact ⟨a, vs, ev, k _ _ h1, h2.stay st fun _ _ z => z, h3⟩
    | dct kvs =>
      obtain ⟨a, vs, ev, h1, h2, h3⟩ := q
      exact ⟨a, vs, ev, k _ _ h1, h2.stay st fun _ _ z => z, h3⟩
    | ldk kvs =>
      obtain ⟨a, o, ws, e1, e2, e3, e4, e5, e6⟩ := q
      exact ⟨a, o, ws, e1, e2, k _ _ e3, e4.stay st fun _ _ z => z, e5, e6⟩
    | exc c d =>
      obtain ⟨a, dd, w, e1, e2, e3, e4⟩ := q
      exact ⟨a, dd, w, e1, e2, k _ _ e3, e4.stay st fun _ _ z => z⟩
  · obtain ⟨a, vs, e1, e2, e3⟩ := r.cell c ds e
    exact ⟨a, vs, e1, k _ _ e2, e3.stay st fun _ _ z => z⟩
theorem Rel.alloc (r : Rel g b al s σ H) {p : Addr} {o : HO} (h : H p = none) : Rel g b al s σ (upd H p o) :=
  r.more fun a o' e => by rw [upd_ne (ne_of_none e h)]; exact e
theorem Rel.away (r : Rel g b al s σ H) {p : Addr} (h : H p = none) : Away s.t σ p := fun i x e o z => by
  obtain ⟨v, e1, q⟩ := r.sl i x e
  rw [z] at e1; cases e1
  cases x with
  | val d => cases o
  | own ds =>
    obtain ⟨a, vs, ev, h1, _⟩ := q
    cases ev; rw [h] at h1; cases h1
  | dct kvs =>
    obtain ⟨a, vs, ev, h1, _⟩ := q
    cases ev; rw [h] at h1; cases h1
  | ldk kvs =>
    obtain ⟨a, o, ws, e1, ev, e3, _⟩ := q
    cases ev; rw [h] at e3; cases e3
  | exc c d => cases o
/-- a new list -/
theorem Rel.newList (r : Rel g b al s σ H) {p : Addr} {ds : List D} {vs : List V} (h : H p = none) (q : Reps g.K al H ds vs) : RVRep g b al s σ (upd H p (.lst vs)) (.own ds) (.ref p) :=
  ⟨p, vs, rfl, upd_same, q.stay (stay_upd h) fun _ _ z => z, r.notAl h, r.newBase h, r.away h⟩
theorem Rel.newTup (r : Rel g b al s σ H) {p : Addr} {ds : List D} {vs : List V} (h : H p = none) (q : Reps g.K al H ds vs) : Rep g.K al (upd H p (.tup vs)) (.tup ds) (.ref p) := by
  unfold Rep
  exact ⟨p, vs, rfl, .of upd_same, q.stay (stay_upd h) fun _ _ z => z⟩
/-- a list is finished -/
theorem stay_frz {a : Addr} {vs : List V} {o : Obj} (h : H a = some (.lst vs)) : Stay H (upd H a (.frz o (.lst vs))) :=
  ⟨fun c xs e => by rw [upd_ne (ne_of e h (by intro z; cases z))]; exact e, fun c x u e => by rw [upd_ne (ne_of e h (by intro z; cases z))]; exact e, fun c fs e => by rw [upd_ne (ne_of e h (by intro z; cases z))]; exact e⟩
theorem ext_frz {a : Addr} {vs : List V} {o : Obj} (h : H a = some (.lst vs)) : Ext al H (upd H a (.frz o (.lst vs))) :=
  ⟨stay_frz h, fun c ws n e => by
    by_cases hc : c = a
    · subst hc; rw [h] at e; cases e; exact .inr ⟨o, upd_same⟩
    · exact .inl (by rw [upd_ne hc]; exact e)⟩
/-- a new list, not in a slot, is finished -/
theorem Rel.frzNew (r : Rel g b al s σ H) {a : Addr} {vs : List V} {o : Obj} (h : H a = some (.lst vs)) (n : a ∉ al) (hb : b.Hb a = none) (aw : Away s.t σ a) : Rel g b al s σ (upd H a (.frz o (.lst vs))) := by
  have st := stay_frz (o := o) h
  refine ⟨r.len, fun i x e => ?_, r.inj, fun c ds e => ?_, r.alen, r.nd, fun c u e m => ?_, r.anew, r.apre⟩
  · obtain ⟨v, e1, q⟩ := r.sl i x e
    refine ⟨v, e1, ?_⟩
    cases x with
    | val d => exact q.stay st fun _ _ z => z
    | own ds =>
      obtain ⟨c, ws, ev, h1, h2, h3⟩ := q
      have : c ≠ a := fun z => by subst ev; subst z; exact aw i _ e rfl e1
      exact ⟨c, ws, ev, by rw [upd_ne this]; exact h1, h2.stay st fun _ _ z => z, h3⟩
    | dct kvs =>
      obtain ⟨c, ws, ev, h1, h2, h3⟩ := q
      have : c ≠ a := fun z => by subst z; rw [h] at h1; cases h1
      exact ⟨c, ws, ev, by rw [upd_ne this]; exact h1, h2.stay st fun _ _ z => z, h3⟩
    | ldk kvs =>
      obtain ⟨a, o, ws, e1, e2, e3, e4, e5, e6⟩ := q
      exact ⟨a, o, ws, e1, e2, st.frz _ _ _ e3, e4.stay st fun _ _ z => z, e5, e6⟩
    | exc c d =>
      obtain ⟨a', dd, w, e1, e2, e3, e4⟩ := q
      exact ⟨a', dd, w, e1, e2, st.xd _ _ e3, e4.stay st fun _ _ z => z⟩
  · obtain ⟨c', ws, e1, e2, e3⟩ := r.cell c ds e
    have : c' ≠ a := fun z => n (z ▸ List.mem_of_getElem? e1)
    exact ⟨c', ws, e1, by rw [upd_ne this]; exact e2, e3.stay st fun _ _ z => z⟩
  · have : c ≠ a := fun z => by subst z; rw [hb] at e; cases e
    rw [upd_ne this]; exact r.base c u e m
/-- the list of a slot is finished -/
theorem Rel.frzLoc (r : Rel g b al s σ H) {i : Nat} {ds : List D} {a : Addr} {vs : List V} {o : Obj} (hi : s.t[i]? = some (some (.own ds))) (hσ : σ[i]? = some (some (.ref a))) (h : H a = some (.lst vs)) (q : Reps g.K al H ds vs) (n : a ∉ al) (hb : b.Hb a = none) :
    Rel g b al { s with t := s.t.set i (some (.val (.lst ds))) } σ (upd H a (.frz o (.lst vs))) ∧ Rep g.K al (upd H a (.frz o (.lst vs))) (.lst ds) (.ref a) := by
  have st := stay_frz (o := o) h
  have q' : Rep g.K al (upd H a (.frz o (.lst vs))) (.lst ds) (.ref a) := by
    unfold Rep
    exact ⟨a, vs, rfl, ⟨o, upd_same⟩, q.stay st fun _ _ z => z⟩
  have hlt : i < s.t.length := (List.getElem?_eq_some_iff.mp hi).1
  refine ⟨⟨by rw [List.length_set]; exact r.len, fun j x e => ?_, fun j k x y c hjk ej ek ox oy => ?_, fun c es e => ?_, r.alen, r.nd, fun c u e m => ?_, r.anew, r.apre⟩, q'⟩
  · dsimp only at e
    by_cases hj : i = j
    · subst hj
      rw [List.getElem?_set_self hlt] at e
      cases e
      exact ⟨_, hσ, q'⟩
    · rw [List.getElem?_set_ne hj] at e
      obtain ⟨v, e1, z⟩ := r.sl j x e
      refine ⟨v, e1, ?_⟩
      cases x with
      | val d => exact z.stay st fun _ _ z => z
      | own es =>
        obtain ⟨c, ws, ev, h1, h2, h3⟩ := z
        have : c ≠ a := fun w => by subst ev; subst w; exact r.inj i j _ _ c hj hi e rfl rfl hσ e1
        exact ⟨c, ws, ev, by rw [upd_ne this]; exact h1, h2.stay st fun _ _ z => z, h3⟩
      | dct kvs =>
        obtain ⟨c, ws, ev, h1, h2, h3⟩ := z
        have : c ≠ a := fun z => by subst z; rw [h] at h1; cases h1
        exact ⟨c, ws, ev, by rw [upd_ne this]; exact h1, h2.stay st fun _ _ z => z, h3⟩
      | ldk kvs =>
        obtain ⟨a', o', ws, e1, e2, e3, e4, e5, e6⟩ := z
        exact ⟨a', o', ws, e1, e2, st.frz _ _ _ e3, e4.stay st fun _ _ z => z, e5, e6⟩
      | exc c d =>
        obtain ⟨a', dd, w, e1, e2, e3, e4⟩ := z
        exact ⟨a', dd, w, e1, e2, st.xd _ _ e3, e4.stay st fun _ _ z => z⟩
  · dsimp only at ej ek
    have nj : i ≠ j := fun z => by
      subst z; rw [List.getElem?_set_self hlt] at ej; cases ej; cases ox
    have nk : i ≠ k := fun z => by
      subst z; rw [List.getElem?_set_self hlt] at ek; cases ek; cases oy
    rw [List.getElem?_set_ne nj] at ej
    rw [List.getElem?_set_ne nk] at ek
    exact r.inj j k x y c hjk ej ek ox oy
  · obtain ⟨c', ws, e1, e2, e3⟩ := r.cell c es e
    have : c' ≠ a := fun z => n (z ▸ List.mem_of_getElem? e1)
    exact ⟨c', ws, e1, by rw [upd_ne this]; exact e2, e3.stay st fun _ _ z => z⟩
  · have : c ≠ a := fun z => by subst z; rw [hb] at e; cases e
    rw [upd_ne this]; exact r.base c u e m
theorem Rel.own (r : Rel g b al s σ H) {i : Nat} {ds : List D} {v : V} (hi : s.t[i]? = some (some (.own ds))) (hσ : σ[i]? = some (some v)) :
    ∃ a vs, v = .ref a ∧ H a = some (.lst vs) ∧ Reps g.K al H ds vs ∧ a ∉ al ∧ b.Hb a = none := by
  obtain ⟨w, e1, q⟩ := r.sl i _ hi
  rw [hσ] at e1; cases e1
  exact q
theorem RVRep.pk (r : Rel g b al s σ H) {x : RV} {v : V} {d : D} (h : RVRep g b al s σ H x v) (e : x.pk = some d) : PRep g.K al H d v := by
  cases x with
  | val d' => cases e; exact .inl h
  | own ds =>
    cases e
    obtain ⟨a, vs, e, h1, h2, h3, _⟩ := h
    exact .inr ⟨ds, a, vs, rfl, e, h1, h2, h3⟩
  | loc i ds =>
    cases e
    obtain ⟨a, vs, e, h1, h2, h3, _⟩ := r.own h.1 h.2
    exact .inr ⟨ds, a, vs, rfl, e, h1, h2, h3⟩
  | dct _ => cases e
  | ldc _ _ => cases e
end
end PI

namespace PI
open PySem PySem.Spec PyProof.Rows L2

section
variable {X : Cx} {pins : List (Addr × Obj)} {σ : L2.St} {H : Hp} {s : Shared} {l : Addr} {xs : List V}
theorem rdL (I : Inv X pins σ H s) (h : Rd H l (.lst xs)) : xs.length ≤ sizeLine ∧ ∃ (its : List Value) (n : Nat), Vals xs its ∧ xs.length = its.length ∧ s.heap.get? l = some { cls := .type "list", data := .seq its.toArray n } := by
  obtain ⟨z, its, n, r, e⟩ := h.ok I.hok
  exact ⟨z, its, n, r, r.length, e⟩
end
section
variable {X : Cx}
def rCatS : R2 := fun x y H Q => ∃ l b xs zs, x = .ref l ∧ y = .ref b ∧ Rd H l (.lst xs) ∧ Rd H b (.lst zs) ∧ xs.length + zs.length ≤ sizeLine ∧ ∀ p, H p = none → Q (.ref p) (upd H p (.lst (xs ++ zs)))
theorem op_catS : OpR X (binaryOp .Add) rCatS := by
  intro pins s σ H x y v u Q I rx ry h
  obtain ⟨l, b, xs, zs, rfl, rfl, hH, hB, hz, q⟩ := h
  cases rx
  cases ry
  obtain ⟨z, its, n, r, hl, e⟩ := rdL I hH
  obtain ⟨z2, its2, n2, r2, hl2, e2⟩ := rdL I hB
  refine PySem.P.add_list e e2 ?_ (by rw [List.size_toArray, List.size_toArray]; omega)
  have ea : its.toArray ++ its2.toArray = (its ++ its2).toArray := by simp
  rw [ea]
  exact ⟨.ref _, _, I.lnew (t' := s.toks) (r.append r2) (by rw [List.length_append]; omega), rfl, q _ I.fresh⟩
def CMulK (i j : Int) : Prop := IntMulOk i j
theorem op_mulK : OpR X (binaryOp .Mult) (rI IntMulOk fun i j => .int (i * j)) := opI fun _ _ _ _ _ _ _ hc q => mul_int q hc
def CDivK (_ j : Int) : Prop := j ≠ 0 ∧ j.natAbs.log2 < 9000
theorem op_fdivK : OpR X (binaryOp .FloorDiv) (rI CDivK fun i j => .int (i.fdiv j)) := opI fun _ _ _ _ _ _ _ hc q => floordiv_int hc.1 q (.inl (PyProof.noPylong_of_log2 hc.2))
def CPowK (a n : Int) : Prop := 0 ≤ n ∧ (Builtin.Int.intBits a : Int) * n ≤ 2 ^ 27
theorem op_powK : OpR X (binaryOp .Pow) (rI CPowK fun i j => .int (i ^ j.toNat)) := opI fun _ _ _ _ _ _ _ hc q => pow_int hc.1 hc.2 q
theorem mulOk_ok {i j : Int} (h : mulOk i j = true) : IntMulOk i j := by
  unfold mulOk at h
  simp only [Bool.or_eq_true, decide_eq_true_eq] at h
  rcases h with (h | h) | h
  · exact .of_left (intBits_le_64 (by omega) (by omega))
  · exact .of_right (intBits_le_64 (by omega) (by omega))
  · exact CMulW.ok h
theorem intBits_le (a : Int) : Builtin.Int.intBits a ≤ a.natAbs.log2 + 1 := by
  unfold Builtin.Int.intBits
  split <;> omega
theorem log64 {a : Int} (h : a.natAbs < 2 ^ 64) : a.natAbs.log2 < 64 := by
  by_cases h0 : a.natAbs = 0
  · rw [h0]; decide
  · exact (Nat.log2_lt h0).mpr h
theorem powOk_ok {a n : Int} (h : powOk a n = true) : CPowK a n := by
  unfold powOk at h
  simp only [Bool.and_eq_true, Bool.or_eq_true, decide_eq_true_eq] at h
  obtain ⟨h0, h⟩ := h
  refine ⟨h0, ?_⟩
  have hb := intBits_le a
  obtain ⟨m, rfl⟩ : ∃ m : Nat, n = m := ⟨n.toNat, by omega⟩
  rcases h with ⟨h1, h2⟩ | ⟨h1, h2⟩
  · have := log64 h2
    have hm : Builtin.Int.intBits a * m ≤ 64 * 1000000 := Nat.mul_le_mul (by omega) (by omega)
    have : ((Builtin.Int.intBits a * m : Nat) : Int) ≤ ((64 * 1000000 : Nat) : Int) := Int.ofNat_le.mpr hm
    rw [Int.natCast_mul] at this
    exact Int.le_trans this (by decide)
  · have hm : Builtin.Int.intBits a * m ≤ 100000 * 1000 := Nat.mul_le_mul (by omega) (by omega)
    have : ((Builtin.Int.intBits a * m : Nat) : Int) ≤ ((100000 * 1000 : Nat) : Int) := Int.ofNat_le.mpr hm
    rw [Int.natCast_mul] at this
    exact Int.le_trans this (by decide)
def rRepS : R2 := fun x y H Q => ∃ l k xs, x = .ref l ∧ y = .int k ∧ Rd H l (.lst xs) ∧ -(2 ^ 63) ≤ k ∧ k < 2 ^ 63 ∧ xs.length * k.toNat ≤ sizeLine ∧
  ∀ p, H p = none → Q (.ref p) (upd H p (.lst (List.replicate k.toNat xs).flatten))
theorem op_repS : OpR X (binaryOp .Mult) rRepS := by
  intro pins s σ H x y v u Q I rx ry h
  obtain ⟨l, k, xs, rfl, rfl, hH, h1, h2, hz, q⟩ := h
  cases rx
  obtain ⟨t, rfl⟩ := ry
  obtain ⟨z, its, n, r, hl, e⟩ := rdL I hH
  have hlen : its.toArray.size * k.toNat ≤ sizeLine := by rw [List.size_toArray, ← hl]; exact hz
  have hcap : ¬ its.toArray.size * k.toNat > (2 ^ 63 - 1) / 8 := by
    have : (sizeLine : Nat) ≤ (2 ^ 63 - 1) / 8 := by decide
    omega
  have hfit : ¬ (!Builtin.List.listFitsIndex k) = true := by
    rw [fitsIndex_both h1 h2]
    exact Bool.false_ne_true
  have hlong : ¬ Builtin.List.listTooLong (its.toArray.size * k.toNat) = true := by
    rw [notLongL hlen]
    exact Bool.false_ne_true
  have hnew : List.foldl (fun x1 x2 => x1 ++ x2) #[] (List.replicate (if its.toArray.isEmpty = true then 0 else k.toNat) its.toArray) = (List.replicate k.toNat its).flatten.toArray := by
    have f0 : ∀ m : Nat, List.foldl (fun x1 x2 => x1 ++ x2) #[] (List.replicate m its.toArray) = (List.replicate m its).flatten.toArray := fun m => by
      have := foldl_rep its m []
      rw [List.nil_append] at this
      exact this
    rw [f0]
    cases its with
    | nil => simp
    | cons a r' => rw [if_neg (by simp)]
  refine wpAny_binaryOp_repeat_ref (T := "list") (U := "int") (by decide) ⟨_, e, rfl⟩ (fun s' => typeIs_int s' k t) noFill_list_mul F.fills_int_mul F.slot_int_rmul repeat_list F.slot_int_index.lookup
    (call_meets F.slot_int_rmul (typeIs_int s k t) F.entry_int_rmul (F.args_int_rmul_2 _ _) (int___rmul___int_list k t l its.toArray n)
      ⟨e, rfl, ⟨_, e, rfl⟩, call_meets F.slot_list_mul ⟨_, e, rfl⟩ F.entry_list_mul (F.args_list_mul_2 _ _) (AutoListH.list___mul___list_int_3 l its.toArray n k t hfit hcap hlong) ⟨e, ?_⟩⟩)
  rw [hnew]
  exact ⟨.ref _, _, I.lnew (t' := s.toks) (r.rep k.toNat) (by rw [PyProof.Rows.lm_len_rep_flat, Nat.mul_comm]; exact hz), rfl, q _ I.fresh⟩
end

/-! ### binary operators by values -/
def opOf : BOp → Operator
  | .add => .Add | .sub => .Sub | .mul => .Mult | .fdiv => .FloorDiv | .mod => .Mod | .pow => .Pow
theorem line_eq : line = sizeLine := by rw [sizeLine_eq]; rfl
/-- what follows a value -/
def Aft (g : G) (b : B) (al : List Addr) (s : S) (σ : L2.St) (H : Hp) (r : RV) (Q : VK) : Prop := ∀ v H', Ext al H H' → Rel g b al s σ H' → RVRep g b al s σ H' r v → Q v H'
section
variable {X : Cx} {g : G} {b : B} {al : List Addr} {s : S} {σ : L2.St} {H : Hp} {Q : VK}
theorem Aft.val {d : D} {v : V} (a : Aft g b al s σ H (.val d) Q) (r : Rel g b al s σ H) (h : Rep g.K al H d v) : Q v H := a v H Ext.refl r h
theorem Aft.int {i : Int} (a : Aft g b al s σ H (.val (.int i)) Q) (r : Rel g b al s σ H) : Q (.int i) H := a.val r (by unfold Rep; rfl)
theorem Aft.bl {i : Bool} (a : Aft g b al s σ H (.val (.bl i)) Q) (r : Rel g b al s σ H) : Q (.bl i) H := a.val r (by unfold Rep; rfl)
theorem Aft.str {i : Str} (a : Aft g b al s σ H (.val (.str i)) Q) (r : Rel g b al s σ H) : Q (.str i) H := a.val r (by unfold Rep; rfl)
theorem Aft.new {ds : List D} {vs : List V} (a : Aft g b al s σ H (.own ds) Q) (r : Rel g b al s σ H) (h : Reps g.K al H ds vs) : ∀ p, H p = none → Q (.ref p) (upd H p (.lst vs)) :=
  fun p hp => a _ _ (ext_upd hp) (r.alloc hp) (r.newList hp h)
theorem Aft.tup {ds : List D} {vs : List V} (a : Aft g b al s σ H (.val (.tup ds)) Q) (r : Rel g b al s σ H) (h : Reps g.K al H ds vs) : ∀ p, H p = none → Q (.ref p) (upd H p (.tup vs)) :=
  fun p hp => a _ _ (ext_upd hp) (r.alloc hp) (r.newTup hp h)
theorem Aft.tupAt {ds : List D} {vs : List V} {p : Addr} (a : Aft g b al s σ H (.val (.tup ds)) Q) (r : Rel g b al s σ H) (hp : SqT g.K H p vs) (h : Reps g.K al H ds vs) : Q (.ref p) H :=
  a.val r (by unfold Rep; exact ⟨p, vs, rfl, hp, h⟩)

theorem binR (hK : X.K = g.K) (o : BOp) : ∃ r : R2, OpR X (binaryOp (opOf o)) r ∧ ∀ (b : B) (al : List Addr) (s : S) (σ : L2.St) (H : Hp) (Q : VK) (x y : D) (v u : V) (rv : RV),
    Rel g b al s σ H → PRep g.K al H x v → PRep g.K al H y u → binD o x y = some rv → Aft g b al s σ H rv Q → r v u H Q := by
  cases o with
  | add =>
    refine ⟨_, (op_add (X := X)).or ((op_catA (X := X)).or ((op_catS (X := X)).or (op_add_str (X := X)))), fun b al s σ H Q x y v u rv R hx hy e a => ?_⟩
    cases x <;> cases y <;> simp only [binD] at e <;> try (cases e; done)
    · cases e; rw [hx.int, hy.int]; exact .inl ⟨_, _, rfl, rfl, a.int R⟩
    · split at e
      · rename_i hl
        cases e; rw [hx.str, hy.str]; exact .inr (.inr (.inr ⟨_, _, rfl, rfl, by rw [← line_eq]; exact hl, a.str R⟩))
      · cases e
    · split at e
      · rename_i hl
        cases e
        obtain ⟨p, vs, rfl, h1, r1⟩ := hx.tup
        obtain ⟨q, ws, rfl, h2, r2⟩ := hy.tup
        rw [← hK] at h1 h2
        have e1 := r1.length
        have e2 := r2.length
        refine .inr (.inl ⟨p, q, vs, ws, rfl, rfl, h1, h2, by rw [← line_eq]; omega, fun z => ?_, fun _ z => ?_, fun _ _ => a.tup R (r1.append r2)⟩)
        · subst z
          have : ‹List D› = [] ∨ True := .inr trivial
          rw [hK] at h2
          refine a.tupAt R h2 ?_
          have := r1.append r2
          simpa using this
        · subst z
          rw [hK] at h1
          refine a.tupAt R h1 ?_
          have := r1.append r2
          simpa using this
      · cases e
    · split at e
      · rename_i hl
        cases e
        obtain ⟨p, vs, rfl, h1, r1⟩ := hx.lst
        obtain ⟨q, ws, rfl, h2, r2⟩ := hy.lst
        have e1 := r1.length
        have e2 := r2.length
        exact .inr (.inr (.inl ⟨p, q, vs, ws, rfl, rfl, h1, h2, by rw [← line_eq]; omega, a.new R (r1.append r2)⟩))
      · cases e
  | sub =>
    refine ⟨_, op_sub (X := X), fun b al s σ H Q x y v u rv R hx hy e a => ?_⟩
    cases x <;> cases y <;> simp only [binD] at e <;> try (cases e; done)
    cases e; rw [hx.int, hy.int]; exact ⟨_, _, rfl, rfl, a.int R⟩
  | mul =>
    refine ⟨_, (op_mulK (X := X)).or ((op_repS (X := X)).or ((op_repT (X := X)).or (op_repL0 (X := X)))), fun b al s σ H Q x y v u rv R hx hy e a => ?_⟩
    cases x <;> cases y <;> simp only [binD] at e <;> try (cases e; done)
    · split at e
      · rename_i hl
        cases e; rw [hx.int, hy.int]; exact .inl ⟨_, _, rfl, rfl, mulOk_ok hl, a.int R⟩
      · cases e
    · split at e
      · rename_i hl
        cases e
        obtain ⟨p, vs, rfl, h1, r1⟩ := hx.tup
        have e1 := r1.length
        rw [← hK] at h1
        obtain ⟨l1, l2, l3, l4⟩ := hl
        rw [hy.int]
        have hne : vs ≠ [] := fun z => by subst z; simp at e1; exact l3 e1
        rename_i dsx j
        by_cases j2 : 2 ≤ j
        · exact .inr (.inr (.inl ⟨p, _, vs, rfl, rfl, h1, hne, j2, l2, by omega, a.tup R (r1.flat _)⟩))
        by_cases j1 : j = 1
        · subst j1
          have e2 : (List.replicate (1 : Int).toNat dsx).flatten = dsx := by simp
          rw [hK] at h1
          rw [e2] at a
          refine .inr (.inr (.inr ⟨p, _, vs, rfl, rfl, by rw [hK]; exact h1, hne, .inl ⟨rfl, a.tupAt R h1 r1⟩⟩))
        · have e2 : (List.replicate j.toNat dsx).flatten = [] := by rw [show j.toNat = 0 by omega]; rfl
          rw [e2] at a
          exact .inr (.inr (.inr ⟨p, _, vs, rfl, rfl, h1, hne, .inr ⟨l4, by omega, a.tup R Reps.nil⟩⟩))
      · cases e
    · split at e
      · rename_i hl
        cases e
        obtain ⟨p, vs, rfl, h1, r1⟩ := hx.lst
        have e1 := r1.length
        obtain ⟨⟨l1, l2⟩, l3⟩ := hl
        rw [hy.int]
        exact .inr (.inl ⟨p, _, vs, rfl, rfl, h1, by omega, by omega, by rw [← line_eq, ← e1]; exact l3, a.new R (r1.flat _)⟩)
      · cases e
  | fdiv =>
    refine ⟨_, op_fdivK (X := X), fun b al s σ H Q x y v u rv R hx hy e a => ?_⟩
    cases x <;> cases y <;> simp only [binD] at e <;> try (cases e; done)
    split at e
    · rename_i hl
      simp only [divOk, Bool.and_eq_true, decide_eq_true_eq] at hl
      cases e; rw [hx.int, hy.int]; exact ⟨_, _, rfl, rfl, hl, a.int R⟩
    · cases e
  | mod =>
    refine ⟨_, op_modN (X := X), fun b al s σ H Q x y v u rv R hx hy e a => ?_⟩
    cases x <;> cases y <;> simp only [binD] at e <;> try (cases e; done)
    split at e
    · cases e
    · rename_i hl
      cases e; rw [hx.int, hy.int]; exact ⟨_, _, rfl, rfl, hl, a.int R⟩
  | pow =>
    refine ⟨_, op_powK (X := X), fun b al s σ H Q x y v u rv R hx hy e a => ?_⟩
    cases x <;> cases y <;> simp only [binD] at e <;> try (cases e; done)
    split at e
    · rename_i hl
      cases e; rw [hx.int, hy.int]; exact ⟨_, _, rfl, rfl, powOk_ok hl, a.int R⟩
    · cases e
end
end PI

namespace PI
open PySem PySem.Spec PyProof.Rows L2
mutual
def toPy : D → PyData
  | .non => .none
  | .bl b => .bool b
  | .int i => .int i
  | .str x => .str x
  | .tup ds => .tuple (toPys ds)
  | .lst ds => .list (toPys ds)
  | .ref _ => .none
def toPys : List D → List PyData
  | [] => []
  | d :: ds => toPy d :: toPys ds
end
mutual
theorem toPy_lay : ∀ (n : Nat) (d : D), dat n d = true → (toPy d).canLay0 = true ∧ (toPy d).depth ≤ n
  | n, .non, _ => by simp [toPy, PyData.canLay0, PyData.depth]
  | n, .bl b, _ => by simp [toPy, PyData.canLay0, PyData.depth]
  | n, .int i, _ => by simp [toPy, PyData.canLay0, PyData.depth]
  | n, .str x, h => by
    simp only [dat] at h
    exact ⟨h, by simp [toPy, PyData.depth]⟩
  | n + 1, .tup ds, h => by
    simp only [dat] at h
    obtain ⟨a, b⟩ := toPys_lay n ds h
    simp only [toPy, PyData.canLay0, PyData.depth]
    exact ⟨a, by omega⟩
  | n + 1, .lst ds, h => by
    simp only [dat] at h
    obtain ⟨a, b⟩ := toPys_lay n ds h
    simp only [toPy, PyData.canLay0, PyData.depth]
    exact ⟨a, by omega⟩
  | 0, .tup ds, h => by simp [dat] at h
  | 0, .lst ds, h => by simp [dat] at h
  | 0, .ref k, h => by simp [dat] at h
  | n + 1, .ref k, h => by simp [dat] at h
theorem toPys_lay : ∀ (n : Nat) (ds : List D), dats n ds = true → PyData.canLayAll0 (toPys ds) = true ∧ PyData.depthAll (toPys ds) ≤ n
  | n, [], _ => by simp [toPys, PyData.canLayAll0, PyData.depthAll]
  | n, d :: ds, h => by
    simp only [dats, Bool.and_eq_true] at h
    obtain ⟨a, b⟩ := toPy_lay n d h.1
    obtain ⟨a', b'⟩ := toPys_lay n ds h.2
    simp only [toPys, PyData.canLayAll0, PyData.depthAll, Bool.and_eq_true]
    exact ⟨⟨a, a'⟩, by omega⟩
end
theorem toPy_shaped {d : D} (h : dat 60 d = true) : SeqAt.shaped (toPy d) = true := by
  obtain ⟨a, b⟩ := toPy_lay 60 d h
  unfold SeqAt.shaped
  rw [a, Bool.true_and]
  exact decide_eq_true (by omega)
mutual
theorem deq_eqv : ∀ (n m : Nat) (d e : D), dat n d = true → dat m e = true → PyData.eqv (toPy d) (toPy e) = deq d e
  | n + 1, m + 1, .tup ds, .tup es, h, k => by
    simp only [dat] at h k
    simp only [toPy, PyData.eqv, deq]
    exact deqs_eqv n m ds es h k
  | n + 1, m + 1, .lst ds, .lst es, h, k => by
    simp only [dat] at h k
    simp only [toPy, PyData.eqv, deq]
    exact deqs_eqv n m ds es h k
  | 0, _, .tup ds, _, h, k => by simp [dat] at h
  | 0, _, .lst ds, _, h, k => by simp [dat] at h
  | n + 1, 0, .tup ds, e, h, k => by cases e <;> first | (simp [dat] at k; done) | simp [toPy, PyData.eqv, deq]
  | n + 1, 0, .lst ds, e, h, k => by cases e <;> first | (simp [dat] at k; done) | simp [toPy, PyData.eqv, deq]
  | _, _, .ref _, _, h, k => by simp [dat] at h
  | _, m, .non, e, h, k => by cases e <;> first | (cases m <;> simp [dat] at k; done) | simp [toPy, PyData.eqv, deq]
  | _, m, .bl _, e, h, k => by cases e <;> first | (cases m <;> simp [dat] at k; done) | simp [toPy, PyData.eqv, deq]
  | _, m, .int _, e, h, k => by cases e <;> first | (cases m <;> simp [dat] at k; done) | simp [toPy, PyData.eqv, deq]
  | _, m, .str _, e, h, k => by cases e <;> first | (cases m <;> simp [dat] at k; done) | simp [toPy, PyData.eqv, deq]
  | n + 1, m + 1, .tup ds, .non, h, k => by simp [toPy, PyData.eqv, deq]
  | n + 1, m + 1, .tup ds, .bl _, h, k => by simp [toPy, PyData.eqv, deq]
  | n + 1, m + 1, .tup ds, .int _, h, k => by simp [toPy, PyData.eqv, deq]
  | n + 1, m + 1, .tup ds, .str _, h, k => by simp [toPy, PyData.eqv, deq]
  | n + 1, m + 1, .tup ds, .lst _, h, k => by simp [toPy, PyData.eqv, deq]
  | n + 1, m + 1, .tup ds, .ref _, h, k => by simp [dat] at k
  | n + 1, m + 1, .lst ds, .non, h, k => by simp [toPy, PyData.eqv, deq]
  | n + 1, m + 1, .lst ds, .bl _, h, k => by simp [toPy, PyData.eqv, deq]
  | n + 1, m + 1, .lst ds, .int _, h, k => by simp [toPy, PyData.eqv, deq]
  | n + 1, m + 1, .lst ds, .str _, h, k => by simp [toPy, PyData.eqv, deq]
  | n + 1, m + 1, .lst ds, .tup _, h, k => by simp [toPy, PyData.eqv, deq]
  | n + 1, m + 1, .lst ds, .ref _, h, k => by simp [dat] at k
theorem deqs_eqv : ∀ (n m : Nat) (ds es : List D), dats n ds = true → dats m es = true → PyData.eqvAll (toPys ds) (toPys es) = deqs ds es
  | n, m, [], [], h, k => by simp [toPys, PyData.eqvAll, deqs]
  | n, m, d :: ds, e :: es, h, k => by
    simp only [dats, Bool.and_eq_true] at h k
    simp only [toPys, PyData.eqvAll, deqs]
    rw [deq_eqv n m d e h.1 k.1, deqs_eqv n m ds es h.2 k.2]
  | n, m, [], e :: es, h, k => by simp [toPys, PyData.eqvAll, deqs]
  | n, m, d :: ds, [], h, k => by simp [toPys, PyData.eqvAll, deqs]
end
section
variable {g : G} {al : List Addr} {H : Hp}
mutual
theorem Rep.dp : ∀ (n : Nat) (d : D) (v : V), dat n d = true → Rep g.K al H d v → Dp g.K H v (toPy d)
  | _, .non, v, _, r => by unfold Rep at r; subst r; exact .non
  | _, .bl b, v, _, r => by unfold Rep at r; subst r; exact .bl b
  | _, .int i, v, _, r => by unfold Rep at r; subst r; exact .int i
  | _, .str x, v, _, r => by unfold Rep at r; subst r; exact .str x
  | n + 1, .tup ds, v, h, r => by
    unfold Rep at r
    obtain ⟨a, vs, rfl, q, t⟩ := r
    simp only [dat] at h
    exact .tup q (Reps.dp n ds vs h t)
  | n + 1, .lst ds, v, h, r => by
    unfold Rep at r
    obtain ⟨a, vs, rfl, q, t⟩ := r
    simp only [dat] at h
    exact .lst (.inl q.rd) (Reps.dp n ds vs h t)
  | 0, .tup ds, v, h, r => by simp [dat] at h
  | 0, .lst ds, v, h, r => by simp [dat] at h
  | 0, .ref k, v, h, r => by simp [dat] at h
  | n + 1, .ref k, v, h, r => by simp [dat] at h
theorem Reps.dp : ∀ (n : Nat) (ds : List D) (vs : List V), dats n ds = true → Reps g.K al H ds vs → DpAll g.K H vs (toPys ds)
  | n, [], vs, _, r => by rw [r.inv0]; exact .nil
  | n, d :: ds, vs, h, r => by
    obtain ⟨v, w, rfl, q, t⟩ := r.inv
    simp only [dats, Bool.and_eq_true] at h
    exact .cons (Rep.dp n d v h.1 q) (Reps.dp n ds w h.2 t)
end
theorem PRep.dp {n : Nat} {d : D} {v : V} (h : dat n d = true) (r : PRep g.K al H d v) : Dp g.K H v (toPy d) := by
  rcases r with r | ⟨ds, a, vs, rfl, rfl, e, r, _⟩
  · exact r.dp n d v h
  · cases n with
    | zero => simp [dat] at h
    | succ n =>
      simp only [dat] at h
      exact .lst (.inl (.inl e)) (r.dp n ds vs h)
end
theorem any_eqv : ∀ (n m : Nat) (d : D) (ds : List D), dat n d = true → dats m ds = true → (toPys ds).any (fun z => PyData.eqv z (toPy d)) = isMem d ds
  | n, m, d, [], h, k => by simp [toPys, isMem]
  | n, m, d, e :: es, h, k => by
    simp only [dats, Bool.and_eq_true] at k
    have ih := any_eqv n m d es h k.2
    simp only [isMem] at ih
    simp only [toPys, isMem, List.any_cons]
    rw [deq_eqv m n e d k.1 h, ih]
section
variable {X : Cx}
def rInA (K : PySem.W.Frag) (neg : Bool) : R2 := fun x y H Q => ∃ d ds, Dp K H x d ∧ (Dp K H y (.list ds) ∨ Dp K H y (.tuple ds)) ∧ SeqAt.shaped d = true ∧ PyData.canLayAll0 ds = true ∧ Q (.bl (if neg then !ds.any fun z => PyData.eqv z d else ds.any fun z => PyData.eqv z d)) H
theorem op_inA (hu : X.A.units + 65 < cLine) : OpR X (compareOp .In) (rInA X.K false) := by
  intro pins s σ H x y v u Q I rx ry h
  obtain ⟨d, ds, hd, he, sd, se, q⟩ := h
  obtain ⟨as, r1⟩ := Dp.reads I d x v hd rx
  rcases he with he | he
  · obtain ⟨bs, r2⟩ := Dp.reads I (.list ds) y u he ry
    exact SeqAt.in_list_reads r2 r1 se (SeqAt.canLay_of_shaped sd) (room_in_shaped sd hu) ⟨.bl _, H, I, rfl, q⟩
  · obtain ⟨bs, r2⟩ := Dp.reads I (.tuple ds) y u he ry
    exact SeqAt.in_tuple_reads r2 r1 se (SeqAt.canLay_of_shaped sd) (room_in_shaped sd hu) ⟨.bl _, H, I, rfl, q⟩
theorem op_notInA (hu : X.A.units + 65 < cLine) : OpR X (compareOp .NotIn) (rInA X.K true) := by
  intro pins s σ H x y v u Q I rx ry h
  obtain ⟨d, ds, hd, he, sd, se, q⟩ := h
  obtain ⟨as, r1⟩ := Dp.reads I d x v hd rx
  rcases he with he | he
  · obtain ⟨bs, r2⟩ := Dp.reads I (.list ds) y u he ry
    exact SeqAt.notIn_list_reads r2 r1 se (SeqAt.canLay_of_shaped sd) (room_in_shaped sd hu) ⟨.bl _, H, I, rfl, q⟩
  · obtain ⟨bs, r2⟩ := Dp.reads I (.tuple ds) y u he ry
    exact SeqAt.notIn_tuple_reads r2 r1 se (SeqAt.canLay_of_shaped sd) (room_in_shaped sd hu) ⟨.bl _, H, I, rfl, q⟩
end
def copOf : COp → CmpOp
  | .eq => .Eq | .ne => .NotEq | .lt => .Lt | .le => .LtE | .gt => .Gt | .ge => .GtE | .isin => .In | .notin => .NotIn | .is => .Is | .isnot => .IsNot
theorem PRep.isNon {g : G} {al : List Addr} {H : Hp} {d : D} {v : V} (h : PRep g.K al H d v) : decide (v = V.non) = d.isNon := by
  rcases h with h | ⟨ds, a, vs, rfl, rfl, _⟩
  · cases d <;> unfold Rep at h
    · subst h; rfl
    · subst h; rfl
    · subst h; rfl
    · subst h; rfl
    · obtain ⟨_, _, rfl, _⟩ := h; rfl
    · obtain ⟨_, _, rfl, _⟩ := h; rfl
    · obtain ⟨_, _, rfl⟩ := h; rfl
  · rfl
theorem cmpR {X : Cx} {g : G} (hK : X.K = g.K) (hu : X.A.units + 65 < cLine) (o : COp) : ∃ r : R2, OpR X (compareOp (copOf o)) r ∧ ∀ (al : List Addr) (H : Hp) (Q : VK) (x y : D) (v u : V) (c : Bool),
    PRep g.K al H x v → PRep g.K al H y u → cmpD o x y = some c → Q (.bl c) H → r v u H Q := by
  cases o with
  | eq =>
    refine ⟨_, op_eqD (X := X) (by omega), fun al H Q x y v u c hx hy e q => ?_⟩
    simp only [cmpD] at e
    split at e
    · rename_i h
      simp only [Bool.and_eq_true] at h
      cases e
      rw [hK]
      exact ⟨_, _, hx.dp h.1, hy.dp h.2, toPy_shaped h.1, toPy_shaped h.2, by rw [deq_eqv 60 60 x y h.1 h.2]; exact q⟩
    · cases e
  | ne =>
    refine ⟨_, op_neD (X := X) (by omega), fun al H Q x y v u c hx hy e q => ?_⟩
    simp only [cmpD] at e
    split at e
    · rename_i h
      simp only [Bool.and_eq_true] at h
      cases e
      rw [hK]
      exact ⟨_, _, hx.dp h.1, hy.dp h.2, toPy_shaped h.1, toPy_shaped h.2, by rw [deq_eqv 60 60 x y h.1 h.2]; exact q⟩
    · cases e
  | lt =>
    refine ⟨_, op_lt (X := X), fun al H Q x y v u c hx hy e q => ?_⟩
    cases x <;> cases y <;> simp only [cmpD] at e <;> try (cases e; done)
    cases e; rw [hx.int, hy.int]; exact ⟨_, _, rfl, rfl, q⟩
  | le =>
    refine ⟨_, op_le (X := X), fun al H Q x y v u c hx hy e q => ?_⟩
    cases x <;> cases y <;> simp only [cmpD] at e <;> try (cases e; done)
    cases e; rw [hx.int, hy.int]; exact ⟨_, _, rfl, rfl, q⟩
  | gt =>
    refine ⟨_, op_gt (X := X), fun al H Q x y v u c hx hy e q => ?_⟩
    cases x <;> cases y <;> simp only [cmpD] at e <;> try (cases e; done)
    cases e; rw [hx.int, hy.int]; exact ⟨_, _, rfl, rfl, q⟩
  | ge =>
    refine ⟨_, op_ge (X := X), fun al H Q x y v u c hx hy e q => ?_⟩
    cases x <;> cases y <;> simp only [cmpD] at e <;> try (cases e; done)
    cases e; rw [hx.int, hy.int]; exact ⟨_, _, rfl, rfl, q⟩
  | isin =>
    refine ⟨_, op_inA (X := X) hu, fun al H Q x y v u c hx hy e q => ?_⟩
    cases y <;> simp only [cmpD] at e <;> try (cases e; done)
    · split at e
      · rename_i ds h
        simp only [Bool.and_eq_true] at h
        cases e
        rw [hK]
        refine ⟨_, toPys ds, hx.dp h.1, .inr (hy.dp (n := 61) (by simp only [dat]; exact h.2)), toPy_shaped h.1, (toPys_lay 60 ds h.2).1, ?_⟩
        simp only [any_eqv 60 60 x ds h.1 h.2]
        exact q
      · cases e
    · split at e
      · rename_i ds h
        simp only [Bool.and_eq_true] at h
        cases e
        rw [hK]
        refine ⟨_, toPys ds, hx.dp h.1, .inl (hy.dp (n := 61) (by simp only [dat]; exact h.2)), toPy_shaped h.1, (toPys_lay 60 ds h.2).1, ?_⟩
        simp only [any_eqv 60 60 x ds h.1 h.2]
        exact q
      · cases e
  | notin =>
    refine ⟨_, op_notInA (X := X) hu, fun al H Q x y v u c hx hy e q => ?_⟩
    cases y <;> simp only [cmpD] at e <;> try (cases e; done)
    · split at e
      · rename_i ds h
        simp only [Bool.and_eq_true] at h
        cases e
        rw [hK]
        refine ⟨_, toPys ds, hx.dp h.1, .inr (hy.dp (n := 61) (by simp only [dat]; exact h.2)), toPy_shaped h.1, (toPys_lay 60 ds h.2).1, ?_⟩
        simp only [any_eqv 60 60 x ds h.1 h.2]
        exact q
      · cases e
    · split at e
      · rename_i ds h
        simp only [Bool.and_eq_true] at h
        cases e
        rw [hK]
        refine ⟨_, toPys ds, hx.dp h.1, .inl (hy.dp (n := 61) (by simp only [dat]; exact h.2)), toPy_shaped h.1, (toPys_lay 60 ds h.2).1, ?_⟩
        simp only [any_eqv 60 60 x ds h.1 h.2]
        exact q
      · cases e
  | is =>
    refine ⟨_, op_isN (X := X), fun al H Q x y v u c hx hy e q => ?_⟩
    cases y <;> simp only [cmpD] at e <;> try (cases e; done)
    cases e
    exact ⟨hy.non, by rw [hx.isNon]; exact q⟩
  | isnot =>
    refine ⟨_, op_notN (X := X), fun al H Q x y v u c hx hy e q => ?_⟩
    cases y <;> simp only [cmpD] at e <;> try (cases e; done)
    cases e
    refine ⟨hy.non, ?_⟩
    rw [hx.isNon]
    exact q
end PI

namespace PI
open PySem PySem.Spec PyProof.Rows L2
theorem reads_ints {h : Heap} : ∀ {its : List Value} {ns : List Int}, IntsAre its ns → ∃ as, ReadsAll h its (ns.map PyData.int) as
  | _, _, .nil => ⟨_, .nil⟩
  | _, _, .cons n t r => by
    obtain ⟨as, q⟩ := reads_ints (h := h) r
    exact ⟨_, .cons (.int n t) q⟩
theorem alike_ints (ns : List Int) : PySem.W.AlikeAll (ns.map PyData.int) := by
  constructor
  · intro x hx y hy
    obtain ⟨i, _, rfl⟩ := List.mem_map.mp hx
    obtain ⟨j, _, rfl⟩ := List.mem_map.mp hy
    rfl
  · intro x hx
    obtain ⟨i, _, rfl⟩ := List.mem_map.mp hx
    intro z; cases z
theorem depth_ints : ∀ ns : List Int, PyData.depthAll (ns.map PyData.int) = 0
  | [] => by simp [PyData.depthAll]
  | n :: ns => by rw [List.map_cons]; simp [PyData.depthAll, PyData.depth, depth_ints ns]
theorem reads_intv {h : Heap} {v : Value} {i : Int} {bs : List Addr} (r : Reads h v (.int i) bs) : ∃ t, v = .int i t := by
  cases r; exact ⟨_, rfl⟩
section
variable {X : Cx}
theorem fold_max_mem (n : Int) : ∀ ns : List Int, ns.foldl max n ∈ n :: ns ∧ ∀ y ∈ n :: ns, y ≤ ns.foldl max n := by
  intro ns
  induction ns generalizing n with
  | nil => exact ⟨by simp, fun y hy => by simp at hy; subst hy; exact Int.le_refl _⟩
  | cons k r ih =>
    obtain ⟨h1, h2⟩ := ih (max n k)
    rw [List.foldl_cons]
    have hn : n ≤ max n k := by omega
    have hk : k ≤ max n k := by omega
    have hm := h2 _ List.mem_cons_self
    refine ⟨?_, fun y hy => ?_⟩
    · rcases List.mem_cons.mp h1 with e | e
      · rw [e]
        by_cases z : n ≤ k
        · rw [Int.max_eq_right z]; simp
        · rw [Int.max_eq_left (by omega)]; simp
      · exact List.mem_cons_of_mem _ (List.mem_cons_of_mem _ e)
    · rcases List.mem_cons.mp hy with e | hy
      · omega
      · rcases List.mem_cons.mp hy with e | hy
        · omega
        · exact h2 y (List.mem_cons_of_mem _ hy)
theorem fold_min_mem (n : Int) : ∀ ns : List Int, ns.foldl min n ∈ n :: ns ∧ ∀ y ∈ n :: ns, ns.foldl min n ≤ y := by
  intro ns
  induction ns generalizing n with
  | nil => exact ⟨by simp, fun y hy => by simp at hy; subst hy; exact Int.le_refl _⟩
  | cons k r ih =>
    obtain ⟨h1, h2⟩ := ih (min n k)
    rw [List.foldl_cons]
    have hn : min n k ≤ n := by omega
    have hk : min n k ≤ k := by omega
    have hm := h2 _ List.mem_cons_self
    refine ⟨?_, fun y hy => ?_⟩
    · rcases List.mem_cons.mp h1 with e | e
      · rw [e]
        by_cases z : n ≤ k
        · rw [Int.min_eq_left z]; simp
        · rw [Int.min_eq_right (by omega)]; simp
      · exact List.mem_cons_of_mem _ (List.mem_cons_of_mem _ e)
    · rcases List.mem_cons.mp hy with e | hy
      · omega
      · rcases List.mem_cons.mp hy with e | hy
        · omega
        · exact h2 y (List.mem_cons_of_mem _ hy)
def rMaxT (K : PySem.W.Frag) : List V → Hp → VK → Prop := fun vs H Q => ∃ (a : Addr) (ns : List Int), vs = [V.ref a] ∧ SqT K H a (ns.map V.int) ∧ 0 < ns.length ∧ ∀ m, m ∈ ns → (∀ y, y ∈ ns → y ≤ m) → Q (.int m) H
def rMinT (K : PySem.W.Frag) : List V → Hp → VK → Prop := fun vs H Q => ∃ (a : Addr) (ns : List Int), vs = [V.ref a] ∧ SqT K H a (ns.map V.int) ∧ 0 < ns.length ∧ ∀ m, m ∈ ns → (∀ y, y ∈ ns → m ≤ y) → Q (.int m) H
def rSumT (K : PySem.W.Frag) : List V → Hp → VK → Prop := fun vs H Q => ∃ (a : Addr) (ns : List Int), vs = [V.ref a] ∧ SqT K H a (ns.map V.int) ∧ Q (.int ns.sum) H
theorem cr_maxT (hc : X.calm = true) (hu : X.A.units + 65 < cLine) : CallR X (.builtin "max") (rMaxT X.K) := by
  intro pins s σ H vs us Q I r h
  obtain ⟨a, ns, rfl, hs, hne, q⟩ := h
  obtain ⟨its, rv, hl, _⟩ := I.tuple hs
  rw [Vals.ref1 r]
  cases ns with
  | nil => simp at hne
  | cons n ms =>
    obtain ⟨as, rd⟩ := reads_ints (h := s.heap) rv.ints
    refine PySem.W.max_tuple_data (x := .int n) (xs := ms.map .int) (as := as) (I.ok.hd hc) hl rd (alike_ints (n :: ms)) (by have := depth_ints (n :: ms); rw [List.map_cons] at this; rw [this]; omega) fun i v h' tk bs hv r2 hk => ?_
    rw [PySem.W.maxD_ints] at r2
    obtain ⟨t, rfl⟩ := reads_intv r2
    obtain ⟨h1, h2⟩ := fold_max_mem n ms
    exact ⟨.int _, H, I.kept hk, ⟨_, rfl⟩, q _ h1 h2⟩
theorem cr_minT (hc : X.calm = true) (hu : X.A.units + 65 < cLine) : CallR X (.builtin "min") (rMinT X.K) := by
  intro pins s σ H vs us Q I r h
  obtain ⟨a, ns, rfl, hs, hne, q⟩ := h
  obtain ⟨its, rv, hl, _⟩ := I.tuple hs
  rw [Vals.ref1 r]
  cases ns with
  | nil => simp at hne
  | cons n ms =>
    obtain ⟨as, rd⟩ := reads_ints (h := s.heap) rv.ints
    refine PySem.W.min_tuple_data (x := .int n) (xs := ms.map .int) (as := as) (I.ok.hd hc) hl rd (alike_ints (n :: ms)) (by have := depth_ints (n :: ms); rw [List.map_cons] at this; rw [this]; omega) fun i v h' tk bs hv r2 hk => ?_
    rw [PySem.W.minD_ints] at r2
    obtain ⟨t, rfl⟩ := reads_intv r2
    obtain ⟨h1, h2⟩ := fold_min_mem n ms
    exact ⟨.int _, H, I.kept hk, ⟨_, rfl⟩, q _ h1 h2⟩
theorem cr_sumT (hc : X.calm = true) : CallR X (.builtin "sum") (rSumT X.K) := by
  intro pins s σ H vs us Q I r h
  obtain ⟨a, ns, rfl, hs, q⟩ := h
  obtain ⟨its, rv, hl, _⟩ := I.tuple hs
  rw [Vals.ref1 r]
  obtain ⟨xs, e⟩ := rv.ints.allInts.items
  have hn : numsOf (intItems xs).toList = ns := by rw [← e]; exact rv.ints.numsOf
  rw [nums_intItems] at hn
  subst hn
  rw [e] at hl
  refine PySem.W.ktm_sumG (I.ok.hd hc) hl fun h' tk t' hk => ?_
  rw [preSum_eq, List.take_of_length_le (by simp)]
  exact ⟨.int _, H, I.kept hk, ⟨_, rfl⟩, q⟩
end
end PI

namespace PI
open PySem PySem.Spec PyProof.Rows L2
section
variable {g : G} {al : List Addr} {H : Hp}
theorem ixP_eq (n : Nat) (i : Int) : ixP n i = ixN n i := rfl
theorem Reps.at {ds : List D} {vs : List V} {i : Int} {d : D} (h : Reps g.K al H ds vs) (e : atD ds i = some d) : ∃ v, atI vs i = some v ∧ Rep g.K al H d v := by
  unfold atD at e
  unfold atI
  rw [← h.length]
  rw [ixP_eq] at e
  cases q : ixN ds.length i with
  | none => rw [q] at e; cases e
  | some j =>
    rw [q] at e
    exact h.get e
end
theorem ixR {X : Cx} {g : G} (hK : X.K = g.K) : ∃ r : R2, IxR X r ∧ ∀ (b : B) (al : List Addr) (s : S) (σ : L2.St) (H : Hp) (Q : VK) (x y : D) (v u : V) (d : D),
    Rel g b al s σ H → PRep g.K al H x v → PRep g.K al H y u → idxD s x y = some d → (∀ w, Rep g.K al H d w → Q w H) → r v u H Q := by
  refine ⟨_, ix_seq (X := X), fun b al s σ H Q x y v u d R hx hy e q => ?_⟩
  cases x with
  | tup ds =>
    cases y <;> simp only [idxD] at e <;> try (cases e; done)
    obtain ⟨p, vs, rfl, h1, r1⟩ := hx.tup
    obtain ⟨w, e1, e2⟩ := r1.at e
    rw [← hK] at h1
    exact .inr (.inl ⟨p, vs, _, w, rfl, hy.int, h1, e1, q w e2⟩)
  | lst ds =>
    cases y <;> simp only [idxD] at e <;> try (cases e; done)
    obtain ⟨p, vs, rfl, h1, r1⟩ := hx.lst
    obtain ⟨w, e1, e2⟩ := r1.at e
    exact .inl ⟨p, vs, _, w, rfl, hy.int, .inl h1, e1, q w e2⟩
  | ref k =>
    cases y <;> simp only [idxD] at e <;> try (cases e; done)
    obtain ⟨a, ha, rfl⟩ := hx.ref
    cases hk : s.h[k]? with
    | none => rw [hk] at e; cases e
    | some ds =>
      rw [hk] at e
      obtain ⟨a', vs, e1, e2, e3⟩ := R.cell k ds hk
      rw [ha] at e1; cases e1
      obtain ⟨w, e4, e5⟩ := e3.at e
      exact .inl ⟨a, vs, _, w, rfl, hy.int, .of e2, e4, q w e5⟩
  | str z =>
    cases y <;> simp only [idxD] at e <;> try (cases e; done)
    split at e
    · rename_i i hl
      cases hj : ixP z.cps.toList.length i with
      | none => rw [hj] at e; cases e
      | some j =>
        rw [hj] at e
        simp only [Option.bind_some, Option.map_eq_some_iff] at e
        obtain ⟨c, hc, rfl⟩ := e
        refine .inr (.inr ⟨z, i, c, hx.str, hy.int, by rw [← line_eq]; exact hl, ?_, q _ (by unfold Rep; rfl)⟩)
        unfold atI
        rw [← ixP_eq, hj]
        exact hc
    · cases e
  | _ => simp only [idxD] at e; try (cases e)

/-! ### sorting -/
theorem insD_perm (i : Int) : ∀ l : List Int, (insD i l).Perm (i :: l)
  | [] => by simp [insD]
  | j :: r => by
    unfold insD
    split
    · exact List.Perm.refl _
    · exact ((insD_perm i r).cons j).trans (List.Perm.swap i j r)
theorem sortD_perm : ∀ l : List Int, (sortD l).Perm l
  | [] => by simp [sortD]
  | i :: r => by
    unfold sortD
    exact (insD_perm i _).trans ((sortD_perm r).cons i)
theorem insD_sorted (i : Int) : ∀ l : List Int, l.Pairwise (· ≤ ·) → (insD i l).Pairwise (· ≤ ·)
  | [], _ => by simp [insD]
  | j :: r, h => by
    unfold insD
    rw [List.pairwise_cons] at h
    split
    · rename_i hij
      rw [List.pairwise_cons]
      refine ⟨fun a ha => ?_, by rw [List.pairwise_cons]; exact h⟩
      rcases List.mem_cons.mp ha with rfl | ha
      · exact hij
      · exact Int.le_trans hij (h.1 a ha)
    · rename_i hij
      rw [List.pairwise_cons]
      refine ⟨fun a ha => ?_, insD_sorted i r h.2⟩
      rcases List.mem_cons.mp ((insD_perm i r).mem_iff.mp ha) with rfl | ha
      · omega
      · exact h.1 a ha
theorem sortD_sorted : ∀ l : List Int, (sortD l).Pairwise (· ≤ ·)
  | [] => by simp [sortD]
  | i :: r => by
    unfold sortD
    exact insD_sorted i _ (sortD_sorted r)

/-! ### built-in functions -/
abbrev PReps (g : G) (al : List Addr) (H : Hp) : List D → List V → Prop := Paired (PRep g.K al H)
def blVal : Bl → Value
  | .len => .builtin "len" | .abs => .builtin "abs" | .int => .type "int" | .max2 => .builtin "max" | .min2 => .builtin "min" | .sum => .builtin "sum" | .all => .builtin "all" | .any => .builtin "any"
  | .tuple => .type "tuple" | .list => .type "list" | .sorted => .builtin "sorted" | .bits => .none | .max1 => .builtin "max" | .min1 => .builtin "min"
theorem CallR.or {X : Cx} {f : Value} {r r' : List V → Hp → VK → Prop} (h : CallR X f r) (h' : CallR X f r') : CallR X f (fun xs H Q => r xs H Q ∨ r' xs H Q) := by
  intro pins s σ H xs us Q I rx q
  rcases q with q | q
  · exact h pins s σ H xs us Q I rx q
  · exact h' pins s σ H xs us Q I rx q
theorem PReps.one {g : G} {al : List Addr} {H : Hp} {d : D} {vs : List V} (h : PReps g al H [d] vs) : ∃ v, vs = [v] ∧ PRep g.K al H d v := by
  cases h with
  | cons p r => cases r; exact ⟨_, rfl, p⟩
theorem PReps.two {g : G} {al : List Addr} {H : Hp} {d e : D} {vs : List V} (h : PReps g al H [d, e] vs) : ∃ v w, vs = [v, w] ∧ PRep g.K al H d v ∧ PRep g.K al H e w := by
  cases h with
  | cons p r => cases r with | cons p' r' => cases r'; exact ⟨_, _, rfl, p, p'⟩
theorem bltR {X : Cx} {g : G} (hK : X.K = g.K) (hc : X.calm = true) (hu : X.A.units + 65 < cLine) (f : Bl) (hf : f ≠ .bits) : ∃ r, CallR X (blVal f) r ∧ ∀ (b : B) (al : List Addr) (s : S) (σ : L2.St) (H : Hp) (Q : VK) (xs : List D) (vs : List V) (rv : RV),
    Rel g b al s σ H → PReps g al H xs vs → bltD f xs = some rv → Aft g b al s σ H rv Q → r vs H Q := by
  cases f with
  | len =>
    refine ⟨_, CallR.or (call_len_seq (X := X)) (call_len_str (X := X)), fun b al s σ H Q xs vs rv R hx e a => ?_⟩
    unfold bltD at e
    split at e <;> try (cases e; done)
    all_goals (rename_i h1; try (injection h1; done))
    · obtain ⟨v, rfl, p⟩ := hx.one
      cases e
      obtain ⟨a', vs, rfl, h1, r1⟩ := p.tup
      rw [← hK] at h1
      exact .inl ⟨a', vs, rfl, .inr h1, by rw [← r1.length]; exact a.int R⟩
    · obtain ⟨v, rfl, p⟩ := hx.one
      cases e
      obtain ⟨a', vs, rfl, h1, r1⟩ := p.lst
      exact .inl ⟨a', vs, rfl, .inl (.inl h1), by rw [← r1.length]; exact a.int R⟩
    · obtain ⟨v, rfl, p⟩ := hx.one
      split at e
      · rename_i hl
        cases e
        exact .inr ⟨_, by rw [p.str], by rw [← line_eq]; exact hl, a.int R⟩
      · cases e
  | abs =>
    refine ⟨_, call_abs (X := X), fun b al s σ H Q xs vs rv R hx e a => ?_⟩
    unfold bltD at e
    split at e <;> try (cases e; done)
    all_goals (rename_i h1; try (injection h1; done))
    obtain ⟨v, rfl, p⟩ := hx.one
    cases e
    exact ⟨_, by rw [p.int], a.int R⟩
  | int =>
    refine ⟨_, call_int1 (X := X), fun b al s σ H Q xs vs rv R hx e a => ?_⟩
    unfold bltD at e
    split at e <;> try (cases e; done)
    all_goals (rename_i h1; try (injection h1; done))
    · obtain ⟨v, rfl, p⟩ := hx.one
      cases e
      exact .inl ⟨_, by rw [p.int], a.int R⟩
    · obtain ⟨v, rfl, p⟩ := hx.one
      cases e
      exact .inr ⟨_, by rw [p.bl], a.int R⟩
  | max2 =>
    refine ⟨_, call_max2 (X := X) hc, fun b al s σ H Q xs vs rv R hx e a => ?_⟩
    unfold bltD at e
    split at e <;> try (cases e; done)
    all_goals (rename_i h1; try (injection h1; done))
    obtain ⟨v, w, rfl, p, p'⟩ := hx.two
    cases e
    exact ⟨_, _, by rw [p.int, p'.int], a.int R⟩
  | min2 =>
    refine ⟨_, call_min2 (X := X) hc, fun b al s σ H Q xs vs rv R hx e a => ?_⟩
    unfold bltD at e
    split at e <;> try (cases e; done)
    all_goals (rename_i h1; try (injection h1; done))
    obtain ⟨v, w, rfl, p, p'⟩ := hx.two
    cases e
    exact ⟨_, _, by rw [p.int, p'.int], a.int R⟩
  | sum =>
    refine ⟨_, CallR.or (cr_sum (X := X) hc) (cr_sumT (X := X) hc), fun b al s σ H Q xs vs rv R hx e a => ?_⟩
    unfold bltD at e
    split at e <;> try (cases e; done)
    all_goals (rename_i h1; try (injection h1; done))
    · obtain ⟨v, rfl, p⟩ := hx.one
      rw [Option.map_eq_some_iff] at e
      obtain ⟨ns, e1, e2⟩ := e
      cases e2
      obtain ⟨a', vs, rfl, h1, r1⟩ := p.lst
      rw [r1.ints e1] at h1
      exact .inl ⟨a', ns, rfl, .inl h1, a.int R⟩
    · obtain ⟨v, rfl, p⟩ := hx.one
      rw [Option.map_eq_some_iff] at e
      obtain ⟨ns, e1, e2⟩ := e
      cases e2
      obtain ⟨a', vs, rfl, h1, r1⟩ := p.tup
      rw [r1.ints e1] at h1
      exact .inr ⟨a', ns, rfl, by rw [hK]; exact h1, a.int R⟩
  | all =>
    refine ⟨_, cr_all (X := X) hc, fun b al s σ H Q xs vs rv R hx e a => ?_⟩
    unfold bltD at e
    split at e <;> try (cases e; done)
    all_goals (rename_i h1; try (injection h1; done))
    obtain ⟨v, rfl, p⟩ := hx.one
    rw [Option.map_eq_some_iff] at e
    obtain ⟨ns, e1, e2⟩ := e
    cases e2
    obtain ⟨a', vs, rfl, h1, r1⟩ := p.lst
    rw [r1.bls e1] at h1
    exact ⟨a', ns, rfl, .inl h1, a.bl R⟩
  | any =>
    refine ⟨_, cr_any (X := X) hc, fun b al s σ H Q xs vs rv R hx e a => ?_⟩
    unfold bltD at e
    split at e <;> try (cases e; done)
    all_goals (rename_i h1; try (injection h1; done))
    obtain ⟨v, rfl, p⟩ := hx.one
    rw [Option.map_eq_some_iff] at e
    obtain ⟨ns, e1, e2⟩ := e
    cases e2
    obtain ⟨a', vs, rfl, h1, r1⟩ := p.lst
    rw [r1.bls e1] at h1
    exact ⟨a', ns, rfl, .inl h1, a.bl R⟩
  | tuple =>
    refine ⟨_, call_tuple_of (X := X), fun b al s σ H Q xs vs rv R hx e a => ?_⟩
    unfold bltD at e
    split at e <;> try (cases e; done)
    all_goals (rename_i h1; try (injection h1; done))
    · obtain ⟨v, rfl, p⟩ := hx.one
      cases e
      obtain ⟨a', vs, rfl, h1, r1⟩ := p.lst
      exact ⟨a', vs, rfl, .inl ⟨.inl h1, a.tup R r1⟩⟩
    · obtain ⟨v, rfl, p⟩ := hx.one
      cases e
      obtain ⟨a', vs, rfl, h1, r1⟩ := p.tup
      exact ⟨a', vs, rfl, .inr ⟨by rw [hK]; exact h1, a.tupAt R h1 r1⟩⟩
  | list =>
    refine ⟨_, call_list_of (X := X), fun b al s σ H Q xs vs rv R hx e a => ?_⟩
    unfold bltD at e
    split at e <;> try (cases e; done)
    all_goals (rename_i h1; try (injection h1; done))
    · obtain ⟨v, rfl, p⟩ := hx.one
      cases e
      obtain ⟨a', vs, rfl, h1, r1⟩ := p.lst
      exact ⟨a', vs, rfl, .inl (.inl h1), a.new R r1⟩
    · obtain ⟨v, rfl, p⟩ := hx.one
      cases e
      obtain ⟨a', vs, rfl, h1, r1⟩ := p.tup
      exact ⟨a', vs, rfl, .inr (by rw [hK]; exact h1), a.new R r1⟩
  | sorted =>
    refine ⟨_, cr_sortedI (X := X), fun b al s σ H Q xs vs rv R hx e a => ?_⟩
    unfold bltD at e
    split at e <;> try (cases e; done)
    all_goals (rename_i h1; try (injection h1; done))
    obtain ⟨v, rfl, p⟩ := hx.one
    rw [Option.map_eq_some_iff] at e
    obtain ⟨ns, e1, e2⟩ := e
    cases e2
    obtain ⟨a', vs, rfl, h1, r1⟩ := p.lst
    rw [r1.ints e1] at h1
    refine ⟨a', ns, rfl, .inl h1, fun ns' q pm st hq => ?_⟩
    have : ns' = sortD ns := PySem.W.ksm_same (pm.trans (sortD_perm ns).symm) st (sortD_sorted ns)
    subst this
    exact a.new R (reps_ints _) q hq
  | bits => exact absurd rfl hf
  | max1 =>
    refine ⟨_, CallR.or (cr_max (X := X) hc) (cr_maxT (X := X) hc hu), fun b al s σ H Q xs vs rv R hx e a => ?_⟩
    unfold bltD at e
    split at e <;> try (cases e; done)
    all_goals (rename_i h1; try (injection h1; done))
    all_goals
      obtain ⟨v, rfl, p⟩ := hx.one
      rw [Option.bind_eq_some_iff] at e
      obtain ⟨ns, e1, e2⟩ := e
      rw [Option.map_eq_some_iff] at e2
      obtain ⟨m, e2, e3⟩ := e2
      cases e3
      rw [List.max?_eq_some_iff] at e2
      have hl : 0 < ns.length := List.length_pos_of_mem e2.1
      have un : ∀ k, k ∈ ns → (∀ y, y ∈ ns → y ≤ k) → k = m := fun k k1 k2 => Int.le_antisymm (e2.2 k k1) (k2 m e2.1)
    · obtain ⟨a', vs, rfl, h1, r1⟩ := p.lst
      rw [r1.ints e1] at h1
      exact .inl ⟨a', ns, rfl, .inl h1, hl, fun k k1 k2 => by rw [un k k1 k2]; exact a.int R⟩
    · obtain ⟨a', vs, rfl, h1, r1⟩ := p.tup
      rw [r1.ints e1] at h1
      exact .inr ⟨a', ns, rfl, by rw [hK]; exact h1, hl, fun k k1 k2 => by rw [un k k1 k2]; exact a.int R⟩
  | min1 =>
    refine ⟨_, CallR.or (cr_min (X := X) hc) (cr_minT (X := X) hc hu), fun b al s σ H Q xs vs rv R hx e a => ?_⟩
    unfold bltD at e
    split at e <;> try (cases e; done)
    all_goals (rename_i h1; try (injection h1; done))
    all_goals
      obtain ⟨v, rfl, p⟩ := hx.one
      rw [Option.bind_eq_some_iff] at e
      obtain ⟨ns, e1, e2⟩ := e
      rw [Option.map_eq_some_iff] at e2
      obtain ⟨m, e2, e3⟩ := e2
      cases e3
      rw [List.min?_eq_some_iff] at e2
      have hl : 0 < ns.length := List.length_pos_of_mem e2.1
      have un : ∀ k, k ∈ ns → (∀ y, y ∈ ns → k ≤ y) → k = m := fun k k1 k2 => Int.le_antisymm (k2 m e2.1) (e2.2 k k1)
    · obtain ⟨a', vs, rfl, h1, r1⟩ := p.lst
      rw [r1.ints e1] at h1
      exact .inl ⟨a', ns, rfl, .inl h1, hl, fun k k1 k2 => by rw [un k k1 k2]; exact a.int R⟩
    · obtain ⟨a', vs, rfl, h1, r1⟩ := p.tup
      rw [r1.ints e1] at h1
      exact .inr ⟨a', ns, rfl, by rw [hK]; exact h1, hl, fun k k1 k2 => by rw [un k k1 k2]; exact a.int R⟩

/-! ### isinstance -/
def tyName : Ty → String
  | .tup => "tuple" | .lst => "list" | .int => "int" | .bl => "bool" | .str => "str"
theorem PRep.ty {X : Cx} {g : G} {al : List Addr} {H : Hp} (hK : X.K = g.K) {d : D} {v : V} {t : Ty} {k : Bool} (h : PRep g.K al H d v) (e : isTy t d = some k) : ∃ u, TyX X.K H v u ∧ PySem.W.kitOne X.K u (.type (tyName t)) = some k := by
  cases d with
  | non => rw [h.non]; refine ⟨_, .base .non, ?_⟩; cases t <;> cases e <;> exact kit_ty (by decide +kernel)
  | bl b => rw [h.bl]; refine ⟨_, .base (.bl _), ?_⟩; cases t <;> cases e <;> exact kit_ty (by decide +kernel)
  | int i => rw [h.int]; refine ⟨_, .base (.int _), ?_⟩; cases t <;> cases e <;> exact kit_ty (by decide +kernel)
  | str x => rw [h.str]; refine ⟨_, .base (.str _), ?_⟩; cases t <;> cases e <;> exact kit_ty (by decide +kernel)
  | tup ds =>
    obtain ⟨a, vs, rfl, h1, _⟩ := h.tup
    have : TyX X.K H (.ref a) (.type "tuple") := by
      rw [hK]
      rcases h1 with (h1 | ⟨o, h1⟩) | ⟨o, its, n, h1, h2, _⟩
      · exact .base (.tup h1)
      · exact .fTuple h1
      · exact .kTuple h1 h2
    refine ⟨_, this, ?_⟩
    cases t <;> cases e <;> exact kit_ty (by decide +kernel)
  | lst ds =>
    obtain ⟨a, vs, rfl, h1, _⟩ := h.lst
    have : TyX X.K H (.ref a) (.type "list") := by
      rcases h1 with h1 | ⟨o, h1⟩
      · exact .base (.lst h1)
      · exact .base (.frz h1)
    refine ⟨_, this, ?_⟩
    cases t <;> cases e <;> exact kit_ty (by decide +kernel)
  | ref k => cases t <;> cases e

/-! ### walks -/
def Walks (g : G) (al : List Addr) (J : It) (ds : List D) (H0 : Hp) : Prop := ∀ H1, Stay H0 H1 →
  (∀ (i : Nat) (d : D), ds[i]? = some d → J.go i H1 ∧ ∀ x H2, J.yld i H1 x H2 → (∀ a o, H1 a = some o → H2 a = some o) ∧ Rep g.K al H2 d x) ∧ (∀ i : Nat, ds.length ≤ i → J.stop i H1)
section
variable {g : G} {al : List Addr} {H : Hp} {K : PySem.W.Frag}
theorem walk_lst {a : Addr} {ds : List D} {vs : List V} (h : FzL g.K H a vs) (r : Reps g.K al H ds vs) : Walks g al (Itl K a) ds H := fun H1 st => by
  have h1 := st.fz h
  have r1 := r.stay st (al' := al) fun _ _ z => z
  refine ⟨fun i d e => ?_, fun i e => ⟨vs, .inl h1.rd, by rw [← r.length]; exact e⟩⟩
  obtain ⟨v, e1, e2⟩ := r1.get e
  refine ⟨⟨vs, v, .inl h1.rd, e1⟩, fun x H2 ⟨e3, e4⟩ => ?_⟩
  subst e3
  have := e4 vs (.inl h1.rd)
  rw [e1] at this; cases this
  exact ⟨fun _ _ z => z, e2⟩
theorem walk_tup {a : Addr} {ds : List D} {vs : List V} (h : SqT K H a vs) (r : Reps g.K al H ds vs) : Walks g al (Itt K a) ds H := fun H1 st => by
  have h1 := st.sqT h
  have r1 := r.stay st (al' := al) fun _ _ z => z
  refine ⟨fun i d e => ?_, fun i e => ⟨vs, h1, by rw [← r.length]; exact e⟩⟩
  obtain ⟨v, e1, e2⟩ := r1.get e
  refine ⟨⟨vs, v, h1, e1⟩, fun x H2 ⟨e3, e4⟩ => ?_⟩
  subst e3
  have := e4 vs h1
  rw [e1] at this; cases this
  exact ⟨fun _ _ z => z, e2⟩
theorem rangeD_get {lo : Int} {n i : Nat} {d : D} (e : (rangeD lo n)[i]? = some d) : i < n ∧ d = .int (lo + i) := by
  unfold rangeD at e
  rw [List.getElem?_map, Option.map_eq_some_iff] at e
  obtain ⟨k, e1, e2⟩ := e
  rw [List.getElem?_eq_some_iff] at e1
  obtain ⟨h, e1⟩ := e1
  simp at h e1
  subst e1
  exact ⟨h, e2.symm⟩
theorem walk_rng {lo : Int} {n : Nat} : Walks g al (Itr lo n) (rangeD lo n) H := fun H1 st => by
  refine ⟨fun i d e => ?_, fun i e => ?_⟩
  · obtain ⟨h, rfl⟩ := rangeD_get e
    refine ⟨h, fun x H2 ⟨e1, e2⟩ => ?_⟩
    subst e1 e2
    exact ⟨fun _ _ z => z, by unfold Rep; rfl⟩
  · simp [rangeD] at e
    exact e
theorem rangeC_get {lo c : Int} {n i : Nat} {d : D} (e : (rangeC lo c n)[i]? = some d) : i < n ∧ d = .int (lo + i * c) := by
  unfold rangeC at e
  rw [List.getElem?_map, Option.map_eq_some_iff] at e
  obtain ⟨k, e1, e2⟩ := e
  rw [List.getElem?_eq_some_iff] at e1
  obtain ⟨h, e1⟩ := e1
  simp at h e1
  subst e1
  exact ⟨h, e2.symm⟩
theorem walk_rngC {lo c : Int} {n : Nat} : Walks g al (Itc lo c n) (rangeC lo c n) H := fun H1 st => by
  refine ⟨fun i d e => ?_, fun i e => ?_⟩
  · obtain ⟨h, rfl⟩ := rangeC_get e
    refine ⟨h, fun x H2 ⟨e1, e2⟩ => ?_⟩
    subst e1 e2
    exact ⟨fun _ _ z => z, by unfold Rep; rfl⟩
  · simp [rangeC] at e
    exact e
theorem rev_get {α : Type} {l : List α} {i : Nat} {d : α} (e : l.reverse[i]? = some d) : i < l.length ∧ l[l.length - 1 - i]? = some d := by
  have h : i < l.reverse.length := (List.getElem?_eq_some_iff.mp e).1
  rw [List.length_reverse] at h
  rw [List.getElem?_reverse h] at e
  exact ⟨h, e⟩
theorem walk_revL {a : Addr} {ds : List D} {vs : List V} (h : FzL g.K H a vs) (r : Reps g.K al H ds vs) : Walks g al (Itv K a vs.length) ds.reverse H := fun H1 st => by
  have h1 := st.fz h
  have r1 := r.stay st (al' := al) fun _ _ z => z
  refine ⟨fun i d e => ?_, fun i e => ?_⟩
  · obtain ⟨hl, e⟩ := rev_get e
    obtain ⟨v, e1, e2⟩ := r1.get e
    rw [r.length] at e1 hl
    refine ⟨⟨hl, vs, v, .inl h1.rd, e1⟩, fun x H2 ⟨e3, e4⟩ => ?_⟩
    subst e3
    have := e4 vs (.inl h1.rd)
    rw [e1] at this; cases this
    exact ⟨fun _ _ z => z, e2⟩
  · rw [List.length_reverse, r.length] at e
    exact e
theorem walk_revT {a : Addr} {ds : List D} {vs : List V} (h : SqT K H a vs) (r : Reps g.K al H ds vs) : Walks g al (RT.ItvT K a vs.length) ds.reverse H := fun H1 st => by
  have h1 := st.sqT h
  have r1 := r.stay st (al' := al) fun _ _ z => z
  refine ⟨fun i d e => ?_, fun i e => ?_⟩
  · obtain ⟨hl, e⟩ := rev_get e
    obtain ⟨v, e1, e2⟩ := r1.get e
    rw [r.length] at e1 hl
    refine ⟨⟨hl, vs, v, h1, e1⟩, fun x H2 ⟨e3, e4⟩ => ?_⟩
    subst e3
    have := e4 vs h1
    rw [e1] at this; cases this
    exact ⟨fun _ _ z => z, e2⟩
  · rw [List.length_reverse, r.length] at e
    exact e
theorem enumD_get : ∀ {ds : List D} {n i : Nat} {d : D}, (enumD n ds)[i]? = some d → ∃ e, ds[i]? = some e ∧ d = .tup [.int (n + i : Nat), e]
  | [], n, i, d, h => by simp [enumD] at h
  | e :: ds, n, 0, d, h => by
    simp [enumD] at h
    exact ⟨e, rfl, by rw [← h]; rfl⟩
  | e :: ds, n, i + 1, d, h => by
    simp only [enumD, List.getElem?_cons_succ] at h
    obtain ⟨e', h1, h2⟩ := enumD_get h
    exact ⟨e', by simpa using h1, by rw [h2]; congr 3; omega⟩
theorem enumD_len : ∀ (ds : List D) (n : Nat), (enumD n ds).length = ds.length
  | [], n => rfl
  | _ :: ds, n => by simp [enumD, enumD_len ds]
theorem tup2_rep {T : Addr} {H1 : Hp} {d e : D} {x y : V} (hT : H1 T = none) (h1 : Rep g.K al H1 d x) (h2 : Rep g.K al H1 e y) : Rep g.K al (upd H1 T (.tup [x, y])) (.tup [d, e]) (.ref T) := by
  have st := stay_upd (o := .tup [x, y]) hT
  unfold Rep
  exact ⟨T, [x, y], rfl, .of upd_same, Reps.cons (h1.stay st fun _ _ z => z) (Reps.cons (h2.stay st fun _ _ z => z) Reps.nil)⟩
theorem walk_enum {a : Addr} {ds : List D} {vs : List V} (h : FzL g.K H a vs) (r : Reps g.K al H ds vs) : Walks g al (Ite K a) (enumD 0 ds) H := fun H1 st => by
  have h1 := st.fz h
  have r1 := r.stay st (al' := al) fun _ _ z => z
  refine ⟨fun i d e => ?_, fun i e => ?_⟩
  · obtain ⟨e', e1, rfl⟩ := enumD_get e
    obtain ⟨v, e2, e3⟩ := r1.get e1
    refine ⟨⟨vs, v, .inl h1.rd, e2⟩, fun x H2 ⟨T, y, ex, hT, eH, e4⟩ => ?_⟩
    have := e4 vs (.inl h1.rd)
    rw [e2] at this; cases this
    subst ex eH
    refine ⟨fun c o q => by rw [upd_ne (ne_of_none q hT)]; exact q, ?_⟩
    rw [show (0 + i : Nat) = i from Nat.zero_add i]
    exact tup2_rep hT (by unfold Rep; rfl) e3
  · rw [enumD_len, r.length] at e
    exact ⟨vs, .inl h1.rd, e⟩
theorem zipD_get : ∀ {ds es : List D} {i : Nat} {d : D}, (zipD ds es)[i]? = some d → ∃ x y, ds[i]? = some x ∧ es[i]? = some y ∧ d = .tup [x, y]
  | [], es, i, d, h => by simp [zipD] at h
  | x :: ds, [], i, d, h => by simp [zipD] at h
  | x :: ds, y :: es, 0, d, h => by
    simp [zipD] at h
    exact ⟨x, y, rfl, rfl, h.symm⟩
  | x :: ds, y :: es, i + 1, d, h => by
    simp only [zipD, List.getElem?_cons_succ] at h
    obtain ⟨a, b, h1, h2, h3⟩ := zipD_get h
    exact ⟨a, b, by simpa using h1, by simpa using h2, h3⟩
theorem zipD_len : ∀ (ds es : List D), (zipD ds es).length = min ds.length es.length
  | [], es => by simp [zipD]
  | x :: ds, [] => by simp [zipD]
  | x :: ds, y :: es => by simp [zipD, zipD_len ds es]
theorem walk_zipL {a b : Addr} {ds es : List D} {vs ws : List V} (h : FzL g.K H a vs) (r : Reps g.K al H ds vs) (h' : FzL g.K H b ws) (r' : Reps g.K al H es ws) : Walks g al (Itz K a b) (zipD ds es) H := fun H1 st => by
  have h1 := st.fz h
  have r1 := r.stay st (al' := al) fun _ _ z => z
  have h2 := st.fz h'
  have r2 := r'.stay st (al' := al) fun _ _ z => z
  refine ⟨fun i d e => ?_, fun i e => ?_⟩
  · obtain ⟨x, y, e1, e2, rfl⟩ := zipD_get e
    obtain ⟨v, e3, e4⟩ := r1.get e1
    obtain ⟨w, e5, e6⟩ := r2.get e2
    refine ⟨⟨vs, ws, v, w, .inl h1.rd, .inl h2.rd, e3, e5⟩, fun z H2 ⟨T, v', w', ex, hT, eH, q1, q2⟩ => ?_⟩
    have z1 := q1 vs (.inl h1.rd)
    have z2 := q2 ws (.inl h2.rd)
    rw [e3] at z1; cases z1
    rw [e5] at z2; cases z2
    subst ex eH
    exact ⟨fun c o q => by rw [upd_ne (ne_of_none q hT)]; exact q, tup2_rep hT e4 e6⟩
  · rw [zipD_len, r.length, r'.length] at e
    exact ⟨vs, ws, .inl h1.rd, .inl h2.rd, by omega⟩
theorem walk_zipT {a b : Addr} {ds es : List D} {vs ws : List V} (h : SqT K H a vs) (r : Reps g.K al H ds vs) (h' : SqT K H b ws) (r' : Reps g.K al H es ws) : Walks g al (RZ.ItzT K a b) (zipD ds es) H := fun H1 st => by
  have h1 := st.sqT h
  have r1 := r.stay st (al' := al) fun _ _ z => z
  have h2 := st.sqT h'
  have r2 := r'.stay st (al' := al) fun _ _ z => z
  refine ⟨fun i d e => ?_, fun i e => ?_⟩
  · obtain ⟨x, y, e1, e2, rfl⟩ := zipD_get e
    obtain ⟨v, e3, e4⟩ := r1.get e1
    obtain ⟨w, e5, e6⟩ := r2.get e2
    refine ⟨⟨vs, ws, v, w, h1, h2, e3, e5⟩, fun z H2 ⟨T, v', w', ex, hT, eH, q1, q2⟩ => ?_⟩
    have z1 := q1 vs h1
    have z2 := q2 ws h2
    rw [e3] at z1; cases z1
    rw [e5] at z2; cases z2
    subst ex eH
    exact ⟨fun c o q => by rw [upd_ne (ne_of_none q hT)]; exact q, tup2_rep hT e4 e6⟩
  · rw [zipD_len, r.length, r'.length] at e
    exact ⟨vs, ws, h1, h2, by omega⟩
end
end PI

namespace PI
open PySem PySem.Spec PyProof.Rows L2

/-! ### what follows a result -/
def ExcRep (g : G) (al : List Addr) (H : Hp) (c : Nat) (d : D) (cls : Value) (dd : Addr) : Prop := cls = .ref (g.C c) ∧ ∃ w, H dd = some (.xd [(g.F c, w)]) ∧ Rep g.K al H d w
section
variable {α β : Type} (g : G) (b : B) (al : List Addr) (W : WX) (σ : L2.St)
def PostX (H : Hp) (ok : α → S → Prop) : Res α → Prop
  | .ok r s' => ok r s'
  | .exc c d s' => ∀ cls dd H', Ext al H H' → Rel g b al s' σ H' → ExcRep g al H' c d cls dd → W cls (some dd) σ H'
  | .bad => False
/-- each value and heap that may come out -/
def okR {τ : Type} (H : Hp) (rep : α → S → τ → Hp → Prop) (Q : τ → Hp → Prop) (r : α) (s' : S) : Prop := ∀ v H', Ext al H H' → Rel g b al s' σ H' → rep r s' v H' → Q v H'
end
section
variable {α β : Type} {g : G} {b : B} {al : List Addr} {W : WX} {σ : L2.St} {H H' : Hp}
theorem postX_bind {ok : β → S → Prop} {r : Res α} {k : α → S → Res β} : PostX g b al W σ H ok (r.bind k) ↔ PostX g b al W σ H (fun a s => PostX g b al W σ H ok (k a s)) r := by
  cases r <;> exact Iff.rfl
theorem PostX.shift {ok ok' : α → S → Prop} {r : Res α} (x : Ext al H H') (P : PostX g b al W σ H ok r) (h : ∀ a s, ok a s → ok' a s) : PostX g b al W σ H' ok' r := by
  cases r with
  | ok a s => exact h a s P
  | exc c d s => exact fun cls dd H'' e rel er => P cls dd H'' (x.trans e) rel er
  | bad => exact P
theorem PostX.mono {ok ok' : α → S → Prop} {r : Res α} (P : PostX g b al W σ H ok r) (h : ∀ a s, ok a s → ok' a s) : PostX g b al W σ H ok' r := P.shift Ext.refl h
theorem okR.shift {τ : Type} {rep : α → S → τ → Hp → Prop} {Q : τ → Hp → Prop} {r : α} {s : S} (x : Ext al H H') (P : okR g b al σ H rep Q r s) : okR g b al σ H' rep Q r s := fun v H'' e => P v H'' (x.trans e)
end
section
variable {X : Cx} {e : Expr}
theorem _root_.L2.PE.mono {t t' : TE} (h : PE X e t) (k : ∀ σ H Q, t' σ H Q → t σ H Q) : PE X e t' := ⟨fun pins s σ H Q I q => h.run pins s σ H Q I (k σ H Q q)⟩
theorem _root_.L2.PT.mono {t t' : TT} (h : PT X e t) (k : ∀ σ H Q, t' σ H Q → t σ H Q) : PT X e t' := ⟨fun pins s σ H Q I q => h.run pins s σ H Q I (k σ H Q q)⟩
theorem _root_.L2.PW.mono {t t' : TT} (h : PW X e t) (k : ∀ σ H Q, t' σ H Q → t σ H Q) : PW X e t' := ⟨fun wh pins s σ H Q I q => h.run wh pins s σ H Q I (k σ H Q q)⟩
theorem _root_.L2.PA.mono {es : List Expr} {t t' : TA} (h : PA X es t) (k : ∀ σ H Q, t' σ H Q → t σ H Q) : PA X es t' := ⟨fun pos pins s σ H Q I q => h.run pos pins s σ H Q I (k σ H Q q)⟩
theorem _root_.L2.PI.mono {tg : Expr} {t t' : TI} (h : L2.PI X tg e t) (k : ∀ σ H Q, t' σ H Q → t σ H Q) : L2.PI X tg e t' := ⟨fun pins s σ H Q I q => h.run pins s σ H Q I (k σ H Q q)⟩
theorem _root_.L2.PE.frz {t : TE} (h : PE X e t) : PE X e (fun σ H Q => t σ H (fun v H1 => Q v H1 ∨ ∃ a vs, v = .ref a ∧ H1 a = some (.lst vs) ∧ ∀ o, Q v (upd H1 a (.frz o (.lst vs))))) := by
  refine ⟨fun pins s σ H Q I hw => ?_⟩
  refine thn (h.run pins s σ H _ I hw) fun u s1 ⟨v, H1, I1, r1, q1⟩ => ?_
  rcases q1 with q | ⟨a, vs, rfl, e1, q⟩
  · exact ⟨v, H1, I1, r1, q⟩
  · obtain ⟨o, I2⟩ := I1.lock e1 trivial
    exact ⟨_, _, I2, r1, q o⟩
end

section
variable (g : G) (W : WX)
def rdE (f : S → Res RV) : TE := fun σ H Q => ∃ b al s, Rel g b al s σ H ∧ PostX g b al W σ H (okR g b al σ H (fun r s' v H' => RVRep g b al s' σ H' r v) Q) (f s)
def rdP (f : S → Res D) : TE := fun σ H Q => ∃ b al s, Rel g b al s σ H ∧ PostX g b al W σ H (okR g b al σ H (fun d _ v H' => PRep g.K al H' d v) Q) (f s)
def rdV (f : S → Res D) : TE := fun σ H Q => ∃ b al s, Rel g b al s σ H ∧ PostX g b al W σ H (okR g b al σ H (fun d _ v H' => Rep g.K al H' d v) Q) (f s)
def rdT (f : S → Res Bool) : TT := fun σ H Q => ∃ b al s, Rel g b al s σ H ∧ PostX g b al W σ H (fun c s' => ∀ H', Ext al H H' → Rel g b al s' σ H' → Q c H') (f s)
def rdA (pk : Bool) (f : S → Res (List D)) : TA := fun σ H Q => ∃ b al s, Rel g b al s σ H ∧ PostX g b al W σ H (okR g b al σ H (fun ds _ vs H' => if pk then PReps g al H' ds vs else Reps g.K al H' ds vs) Q) (f s)
end
section
variable {X : Cx} {e : Expr} {g : G} {W : WX}
theorem pe_P {f : S → Res RV} (h : PE X e (rdE g W f)) : PE X e (rdP g W fun s => toP (f s)) := h.mono fun σ H Q ⟨b, al, s, R, P⟩ => by
  refine ⟨b, al, s, R, ?_⟩
  unfold toP at P
  rw [postX_bind] at P
  refine P.mono fun r s' p v H' x R' rv => ?_
  cases q : r.pk with
  | none => rw [q] at p; exact p.elim
  | some d =>
    rw [q] at p
    exact p v H' x R' (rv.pk R' q)
theorem pe_V {f : S → Res RV} (h : PE X e (rdE g W f)) : PE X e (rdV g W fun s => toV (f s)) := h.frz.mono fun σ H Q ⟨b, al, s, R, P⟩ => by
  refine ⟨b, al, s, R, ?_⟩
  unfold toV at P
  rw [postX_bind] at P
  refine P.mono fun r s' p v H' x R' rv => ?_
  cases r with
  | val d => exact .inl (p v H' x R' rv)
  | own ds =>
    obtain ⟨a, vs, rfl, h1, h2, h3, h4, h5⟩ := rv
    refine .inr ⟨a, vs, rfl, h1, fun o => p _ _ (x.trans (ext_frz h1)) (R'.frzNew h1 h3 h4 h5) ?_⟩
    unfold Rep
    exact ⟨a, vs, rfl, ⟨o, upd_same⟩, h2.stay (stay_frz h1) fun _ _ z => z⟩
  | loc i ds =>
    obtain ⟨h1, h2⟩ := rv
    obtain ⟨a, vs, rfl, h3, h4, h5, h6⟩ := R'.own h1 h2
    refine .inr ⟨a, vs, rfl, h3, fun o => ?_⟩
    obtain ⟨k1, k2⟩ := R'.frzLoc (o := o) h1 h2 h3 h4 h5 h6
    exact p _ _ (x.trans (ext_frz h3)) k1 k2
  | dct _ => exact p.elim
  | ldc _ _ => exact p.elim
/-- a plain result -/
theorem rdE_val {f : S → Res D} (h : PE X e (rdV g W f)) : PE X e (rdE g W fun s => (f s).bind fun d s => .ok (.val d) s) := h.mono fun σ H Q ⟨b, al, s, R, P⟩ => by
  refine ⟨b, al, s, R, ?_⟩
  rw [postX_bind] at P
  exact P

/-! ### arguments -/
theorem pa_nil' {pk : Bool} : PA X [] (rdA g W pk fun s => .ok [] s) := pa_nil.mono fun σ H Q ⟨b, al, s, R, P⟩ => P [] H Ext.refl R (by cases pk with | true => exact .nil | false => exact (Reps.nil : Reps g.K al H [] []))
def notStar : Expr → Bool
  | .Starred _ _ => false
  | _ => true
theorem star_cons {e : Expr} (h : notStar e = true) (es : List Expr) (env : Env) : starEach (e :: es) env = (false, eval e env) :: starEach es env := by
  cases e <;> first | rfl | (cases h)
theorem pa_cons' {es : List Expr} {pk : Bool} {f : S → Res D} {k : S → Res (List D)} (hs : notStar e = true) (h : PE X e (if pk then rdP g W f else rdV g W f)) (hr : PA X es (rdA g W pk k)) :
    PA X (e :: es) (rdA g W pk fun s => (f s).bind fun d s => (k s).bind fun ds s => .ok (d :: ds) s) := by
  cases pk with
  | true =>
    refine (pa_cons h hr (star_cons hs es X.env)).mono fun σ H Q ⟨b, al, s, R, P⟩ => ⟨b, al, s, R, ?_⟩
    rw [postX_bind] at P
    refine P.mono fun d s1 p v H1 x1 R1 r1 => ⟨b, al, s1, R1, ?_⟩
    rw [postX_bind] at p
    refine p.shift x1 fun ds s2 p2 vs H2 x2 R2 r2 => p2 _ _ (x1.trans x2) R2 ?_
    simp only [if_true] at r1 r2 ⊢
    exact .cons (r1.ext x2) r2
  | false =>
    refine (pa_cons h hr (star_cons hs es X.env)).mono fun σ H Q ⟨b, al, s, R, P⟩ => ⟨b, al, s, R, ?_⟩
    rw [postX_bind] at P
    refine P.mono fun d s1 p v H1 x1 R1 r1 => ⟨b, al, s1, R1, ?_⟩
    rw [postX_bind] at p
    refine p.shift x1 fun ds s2 p2 vs H2 x2 R2 r2 => p2 _ _ (x1.trans x2) R2 ?_
    simp only [Bool.false_eq_true, if_false] at r1 r2 ⊢
    exact Reps.cons (r1.stay x2.st fun _ _ z => z) r2

/-! ### displays -/
theorem pe_tup' {es : List Expr} {k : S → Res (List D)} {n : Nat} {pos : Pos} (h : PA X es (rdA g W false k)) (hn : es.length ≤ 1000) (hl : ∀ s ds s', k s = .ok ds s' → ds.length = es.length) :
    PE X (.Tuple es n pos) (rdE g W fun s => (k s).bind fun ds s => .ok (.val (.tup ds)) s) := by
  refine (pe_tup h).mono fun σ H Q ⟨b, al, s, R, P⟩ => ⟨b, al, s, R, ?_⟩
  rw [postX_bind] at P
  cases q : k s with
  | ok ds s1 =>
    rw [q] at P
    intro vs H1 x1 R1 r1
    simp only [Bool.false_eq_true, if_false] at r1
    have hd := hl s ds s1 q
    have hlen := r1.length
    have a : Aft g b al s1 σ H1 (.val (.tup ds)) Q := fun v H' x R' rv => P v H' (x1.trans x) R' rv
    exact ⟨by rw [← hlen, hd, ← line_eq]; unfold line; omega, a.tup R1 r1⟩
  | exc c d s1 => rw [q] at P; exact P
  | bad => rw [q] at P; exact P
theorem pe_lst' {es : List Expr} {k : S → Res (List D)} {pos : Pos} (h : PA X es (rdA g W false k)) (hn : es.length ≤ 1000) (hl : ∀ s ds s', k s = .ok ds s' → ds.length = es.length) :
    PE X (.List es pos) (rdE g W fun s => (k s).bind fun ds s => .ok (.own ds) s) := by
  refine (pe_lst h).mono fun σ H Q ⟨b, al, s, R, P⟩ => ⟨b, al, s, R, ?_⟩
  rw [postX_bind] at P
  cases q : k s with
  | ok ds s1 =>
    rw [q] at P
    intro vs H1 x1 R1 r1
    simp only [Bool.false_eq_true, if_false] at r1
    have hd := hl s ds s1 q
    have hlen := r1.length
    have a : Aft g b al s1 σ H1 (.own ds) Q := fun v H' x R' rv => P v H' (x1.trans x) R' rv
    exact ⟨by rw [← hlen, hd, ← line_eq]; unfold line; omega, a.new R1 r1⟩
  | exc c d s1 => rw [q] at P; exact P
  | bad => rw [q] at P; exact P

/-! ### two operands -/
theorem postX_ofO {b : B} {al : List Addr} {σ : L2.St} {H : Hp} {o : Option RV} {s : S} {ok : RV → S → Prop} (h : PostX g b al W σ H ok (ofO o s)) : ∃ r, o = some r ∧ ok r s := by
  cases o with
  | none => exact h.elim
  | some r => exact ⟨r, rfl, h⟩
theorem pe_bin {a c : Expr} {fa fc : S → Res D} {o : BOp} {pos : Pos} (hK : X.K = g.K) (ha : PE X a (rdP g W fa)) (hc : PE X c (rdP g W fc)) :
    PE X (.BinOp a (opOf o) c pos) (rdE g W fun s => (fa s).bind fun x s => (fc s).bind fun y s => ofO (binD o x y) s) := by
  obtain ⟨r, hr, hv⟩ := binR (X := X) hK o
  refine (pe_op hr ha hc).mono fun σ H Q ⟨b, al, s, R, P⟩ => ⟨b, al, s, R, ?_⟩
  rw [postX_bind] at P
  refine P.mono fun x s1 p v H1 x1 R1 r1 => ⟨b, al, s1, R1, ?_⟩
  rw [postX_bind] at p
  refine p.shift x1 fun y s2 p2 u H2 x2 R2 r2 => ?_
  obtain ⟨rv, e, p3⟩ := postX_ofO p2
  exact hv b al s2 σ H2 Q x y v u rv R2 (r1.ext x2) r2 e fun w H3 x3 R3 r3 => p3 w H3 ((x1.trans x2).trans x3) R3 r3
theorem pe_idx {a c : Expr} {fa fc : S → Res D} {pos : Pos} (hK : X.K = g.K) (ha : PE X a (rdP g W fa)) (hc : PE X c (rdP g W fc)) (hp : PlainIx c) :
    PE X (.Subscript a c pos) (rdE g W fun s => (fa s).bind fun x s => (fc s).bind fun y s => match idxD s x y with | some d => .ok (.val d) s | none => .bad) := by
  obtain ⟨r, hr, hv⟩ := ixR (X := X) hK
  refine (pe_ix hr ha hc hp).mono fun σ H Q ⟨b, al, s, R, P⟩ => ⟨b, al, s, R, ?_⟩
  rw [postX_bind] at P
  refine P.mono fun x s1 p v H1 x1 R1 r1 => ⟨b, al, s1, R1, ?_⟩
  rw [postX_bind] at p
  refine p.shift x1 fun y s2 p2 u H2 x2 R2 r2 => ?_
  cases e : idxD s2 x y with
  | none => rw [e] at p2; exact p2.elim
  | some d =>
    rw [e] at p2
    exact hv b al s2 σ H2 Q x y v u d R2 (r1.ext x2) r2 e fun w rw' => p2 w H2 (x1.trans x2) R2 rw'
theorem plainIx_of {c : Expr} (h : (match c with | .Slice _ _ _ _ => false | _ => true) = true) : PlainIx c := by
  cases c <;> first | (intro _ _; rfl) | (cases h)
theorem pe_neg {a : Expr} {fa : S → Res D} {pos : Pos} (ha : PE X a (rdP g W fa)) :
    PE X (.UnaryOp .USub a pos) (rdE g W fun s => (toI (fa s)).bind fun i s => .ok (.val (.int (-i))) s) := by
  refine (pe_un un_neg ha).mono fun σ H Q ⟨b, al, s, R, P⟩ => ⟨b, al, s, R, ?_⟩
  rw [postX_bind] at P
  unfold toI at P
  rw [postX_bind] at P
  refine P.mono fun x s1 p v H1 x1 R1 r1 => ?_
  cases x with
  | int i =>
    refine ⟨i, r1.int, ?_⟩
    exact p _ H1 x1 R1 (by unfold RVRep Rep; rfl)
  | _ => exact p.elim
theorem pe_not' {a : Expr} {fa : S → Res D} {pos : Pos} (ha : PE X a (rdP g W fa)) :
    PE X (.UnaryOp .Not a pos) (rdE g W fun s => (toB (fa s)).bind fun i s => .ok (.val (.bl (!i))) s) := by
  refine (pe_not ha).mono fun σ H Q ⟨b, al, s, R, P⟩ => ⟨b, al, s, R, ?_⟩
  rw [postX_bind] at P
  unfold toB at P
  rw [postX_bind] at P
  refine P.mono fun x s1 p v H1 x1 R1 r1 => ?_
  cases x with
  | bl i =>
    refine ⟨i, r1.bl, ?_⟩
    exact p _ H1 x1 R1 (by unfold RVRep Rep; rfl)
  | _ => exact p.elim

/-! ### truth -/
theorem PRep.tru {al : List Addr} {H : Hp} (hK : X.K = g.K) {d : D} {v : V} {k : Bool} (h : PRep g.K al H d v) (e : truth d = some k) : TruV X.K v H k := by
  cases d with
  | non => cases e; rw [h.non]; rfl
  | bl c => cases e; rw [h.bl]; rfl
  | int i => cases e; rw [h.int]; rfl
  | str x => cases e
  | tup ds =>
    cases e
    obtain ⟨a, vs, rfl, h1, r1⟩ := h.tup
    rw [← hK] at h1
    refine .inr (.inl ⟨vs, h1, ?_⟩)
    cases ds <;> cases vs <;> first | rfl | (have := r1.length; simp at this)
  | lst ds =>
    cases e
    obtain ⟨a, vs, rfl, h1, r1⟩ := h.lst
    refine .inl ⟨vs, .inl h1, ?_⟩
    cases ds <;> cases vs <;> first | rfl | (have := r1.length; simp at this)
  | ref k => cases e
def plainT : Expr → Bool
  | .UnaryOp .Not _ _ => false
  | .BoolOp _ _ _ => false
  | .IfExp _ _ _ _ => false
  | .Compare _ _ _ _ => false
  | _ => true
theorem isTrue_plainT {e : Expr} (h : plainT e = true) (env : Env) (whole : Sem Value) : isTrue e env whole = (do let v ← whole; standAt e.pos; holding [v] (truthy v)) := by
  cases e with
  | UnaryOp op x p => cases op <;> first | rfl | (cases h)
  | _ => first | rfl | (cases h)
theorem pt_P {f : S → Res D} (hK : X.K = g.K) (h : PE X e (rdP g W f)) (hp : plainT e = true) : PT X e (rdT g W fun s => toT (f s)) := by
  refine (pt_truth h fun whole => isTrue_plainT hp X.env whole).mono fun σ H Q ⟨b, al, s, R, P⟩ => ⟨b, al, s, R, ?_⟩
  unfold toT at P
  rw [postX_bind] at P
  refine P.mono fun x s1 p v H1 x1 R1 r1 => ?_
  cases q : truth x with
  | none => rw [q] at p; exact p.elim
  | some k =>
    rw [q] at p
    exact ⟨k, r1.tru hK q, p H1 x1 R1⟩
theorem rdT_toB {f : S → Res D} (h : PT X e (rdT g W fun s => toT (f s))) : PT X e (rdT g W fun s => toB (f s)) := h.mono fun σ H Q ⟨b, al, s, R, P⟩ => by
  refine ⟨b, al, s, R, ?_⟩
  unfold toT
  unfold toB at P
  rw [postX_bind] at P ⊢
  refine P.mono fun x s1 p => ?_
  cases x with
  | bl k => exact p
  | _ => exact p.elim
theorem pt_not' {a : Expr} {fa : S → Res D} {pos : Pos} (ha : PT X a (rdT g W fun s => toB (fa s))) :
    PT X (.UnaryOp .Not a pos) (rdT g W fun s => toT (toP ((toB (fa s)).bind fun i s => .ok (.val (.bl (!i))) s))) := by
  refine (pt_not ha).mono fun σ H Q ⟨b, al, s, R, P⟩ => ⟨b, al, s, R, ?_⟩
  unfold toT toP at P
  rw [postX_bind, postX_bind, postX_bind] at P
  exact P
/-! ### and, or -/
theorem pt_bop {es : List Expr} {op : PySem.BoolOp} {f : S → Res Bool} {pos : Pos} (h : PW X (.BoolOp op es pos) (rdT g W f)) :
    PT X (.BoolOp op es pos) (rdT g W fun s => toT (toP ((f s).bind fun c s => .ok (.val (.bl c)) s))) := h.pt.mono fun σ H Q ⟨b, al, s, R, P⟩ => by
  refine ⟨b, al, s, R, ?_⟩
  unfold toT toP at P
  rw [postX_bind, postX_bind, postX_bind] at P
  exact P
theorem pw_one {op : PySem.BoolOp} (hop : op = .And ∨ op = .Or) {f : S → Res Bool} {pos : Pos} (h : PT X e (rdT g W f)) : PW X (.BoolOp op [e] pos) (rdT g W f) := by
  rcases hop with rfl | rfl
  · exact pw_and1 h
  · exact pw_or1 h
theorem pw_two {c : Bool} {e2 : Expr} {es : List Expr} {f k : S → Res Bool} {pos : Pos} (h : PT X e (rdT g W f)) (hr : PW X (.BoolOp (if c then .And else .Or) (e2 :: es) pos) (rdT g W k)) :
    PW X (.BoolOp (if c then .And else .Or) (e :: e2 :: es) pos) (rdT g W fun s => (f s).bind fun b s => if b = c then k s else .ok b s) := by
  cases c with
  | true =>
    refine (pw_and h hr).mono fun σ H Q ⟨b, al, s, R, P⟩ => ⟨b, al, s, R, ?_⟩
    rw [postX_bind] at P
    refine P.mono fun c s1 p H1 x1 R1 => ?_
    cases c with
    | true =>
      rw [if_pos rfl] at p ⊢
      exact ⟨b, al, s1, R1, p.shift x1 fun d s2 p2 H2 x2 => p2 H2 (x1.trans x2)⟩
    | false => exact p H1 x1 R1
  | false =>
    refine (pw_or h hr).mono fun σ H Q ⟨b, al, s, R, P⟩ => ⟨b, al, s, R, ?_⟩
    rw [postX_bind] at P
    refine P.mono fun c s1 p H1 x1 R1 => ?_
    cases c with
    | true => exact p H1 x1 R1
    | false =>
      rw [if_pos rfl] at p
      rw [if_neg Bool.false_ne_true]
      exact ⟨b, al, s1, R1, p.shift x1 fun d s2 p2 H2 x2 => p2 H2 (x1.trans x2)⟩
/-- .. as a value -/
def rdB (g : G) (W : WX) (f : S → Res Bool) : TE := fun σ H Q => ∃ b al s, Rel g b al s σ H ∧ PostX g b al W σ H (fun c s' => ∀ H', Ext al H H' → Rel g b al s' σ H' → Q (.bl c) H') (f s)
theorem pe_toB {f : S → Res D} (h : PE X e (rdP g W f)) : PE X e (rdB g W fun s => toB (f s)) := h.mono fun σ H Q ⟨b, al, s, R, P⟩ => by
  refine ⟨b, al, s, R, ?_⟩
  unfold toB at P
  rw [postX_bind] at P
  refine P.mono fun x s1 p v H1 x1 R1 r1 => ?_
  cases x with
  | bl k => rw [r1.bl]; exact p H1 x1 R1
  | _ => exact p.elim
theorem pe_B {f : S → Res Bool} (h : PE X e (rdB g W f)) : PE X e (rdE g W fun s => (f s).bind fun c s => .ok (.val (.bl c)) s) := h.mono fun σ H Q ⟨b, al, s, R, P⟩ => by
  refine ⟨b, al, s, R, ?_⟩
  rw [postX_bind] at P
  exact P.mono fun c s1 p H1 x1 R1 => p _ H1 x1 R1 (by unfold RVRep Rep; rfl)
theorem peB_one {op : PySem.BoolOp} {f : S → Res Bool} {pos : Pos} (h : PE X e (rdB g W f)) : PE X (.BoolOp op [e] pos) (rdB g W f) := pe_one h
theorem peB_two {c : Bool} {e2 : Expr} {es : List Expr} {f k : S → Res Bool} {pos : Pos} (h : PE X e (rdB g W f)) (hr : PE X (.BoolOp (if c then .And else .Or) (e2 :: es) pos) (rdB g W k)) :
    PE X (.BoolOp (if c then .And else .Or) (e :: e2 :: es) pos) (rdB g W fun s => (f s).bind fun b s => if b = c then k s else .ok b s) := by
  cases c with
  | true =>
    refine (pe_and h hr).mono fun σ H Q ⟨b, al, s, R, P⟩ => ⟨b, al, s, R, ?_⟩
    rw [postX_bind] at P
    refine P.mono fun c s1 p H1 x1 R1 => ⟨c, rfl, ?_⟩
    cases c with
    | true =>
      rw [if_pos rfl] at p ⊢
      exact ⟨b, al, s1, R1, p.shift x1 fun d s2 p2 H2 x2 => p2 H2 (x1.trans x2)⟩
    | false => exact p H1 x1 R1
  | false =>
    refine (pe_or h hr).mono fun σ H Q ⟨b, al, s, R, P⟩ => ⟨b, al, s, R, ?_⟩
    rw [postX_bind] at P
    refine P.mono fun c s1 p H1 x1 R1 => ⟨c, rfl, ?_⟩
    cases c with
    | true => exact p H1 x1 R1
    | false =>
      rw [if_pos rfl] at p
      rw [if_neg Bool.false_ne_true]
      exact ⟨b, al, s1, R1, p.shift x1 fun d s2 p2 H2 x2 => p2 H2 (x1.trans x2)⟩
end
end PI

namespace PI
open PySem PySem.Spec PyProof.Rows L2
section
variable {X : Cx} {e : Expr} {g : G} {W : WX}
theorem pe_var' {i : Nat} {x : Str} {pos : Pos} (hN : X.N[i]? = some x) (hv : Vis X.env.scope x) (hd : (x == ("__debug__" : Str)) = false) (hcd : (x == ("__classdict__" : Str)) = false) :
    PE X (.Name x pos) (rdE g W fun s => slGet s i) := (pe_var hN hv hd hcd).mono fun σ H Q ⟨b, al, s, R, P⟩ => by
  have P : PostX g b al W σ H (okR g b al σ H (fun r s' v H' => RVRep g b al s' σ H' r v) Q) (slGet s i) := P
  unfold slGet at P
  cases q : s.t[i]? with
  | none => rw [q] at P; exact P.elim
  | some o =>
    cases o with
    | none => rw [q] at P; exact P.elim
    | some x =>
      rw [q] at P
      obtain ⟨v, e1, r⟩ := R.sl i x q
      refine ⟨v, e1, ?_⟩
      cases x with
      | val d => exact P v H Ext.refl R r
      | own ds => exact P v H Ext.refl R ⟨q, e1⟩
      | dct ds => exact P v H Ext.refl R ⟨.inl q, e1⟩
      | ldk ds => exact P v H Ext.refl R ⟨.inr q, e1⟩
      | exc c d => exact P.elim
theorem pe_cst {v : V} {d : D} (h : PE X e (tC v)) (hr : ∀ al H, Rep g.K al H d v) : PE X e (rdE g W fun s => .ok (.val d) s) := h.mono fun σ H Q ⟨b, al, s, R, P⟩ => P v H Ext.refl R (hr al H)
/-! ### calls -/
theorem stars_false : ∀ (es : List Expr) (env : Env) (pos : Pos), es.all notStar = true → (backTo pos (starEach es env)).any (·.1) = false
  | [], env, pos, _ => rfl
  | e :: es, env, pos, h => by
    simp only [List.all_cons, Bool.and_eq_true] at h
    rw [star_cons h.1]
    show (false || (backTo pos (starEach es env)).any (·.1)) = false
    rw [stars_false es env pos h.2]
    rfl
structure CellsOk (K : PySem.W.Frag) (al : List Addr) (h : List (List D)) (H : Hp) : Prop where
  alen : al.length = h.length
  nd : al.Nodup
  cell : ∀ (k : Nat) (ds : List D), h[k]? = some ds → ∃ a vs, al[k]? = some a ∧ H a = some (.lst vs) ∧ Reps K al H ds vs
def Keep (al : List Addr) (H H' : Hp) : Prop := ∀ a o, a ∉ al → H a = some o → H' a = some o
def FRep (K : PySem.W.Frag) (al : List Addr) (H H' : Hp) : RV → V → Prop
  | .val d, v => Rep K al H' d v
  | .own ds, v => ∃ a vs, v = .ref a ∧ H' a = some (.lst vs) ∧ Reps K al H' ds vs ∧ H a = none
  | .dct kvs, v => ∃ a ws, v = .ref a ∧ H' a = some (.dK ws) ∧ KRep K al H' kvs ws ∧ H a = none
  | _, _ => False
/-- what a def promises -/
def spF (g : G) (Φ : Fns) (f : Str) (n : Nat) : Sp := fun vs H Q E => ∃ (al : List Addr) (ds : List D) (h : List (List D)), vs.length = n ∧ Reps g.K al H ds vs ∧ CellsOk g.K al h H ∧
  (match Φ f ds h with
   | .ok r h' => ∀ v H', Keep al H H' → CellsOk g.K al h' H' → FRep g.K al H H' r v → Q v H'
   | .exc c d h' => ∀ cls dd H', Keep al H H' → CellsOk g.K al h' H' → ExcRep g al H' c d cls dd → E cls (some dd) H'
   | .bad => False)
theorem _root_.PI.Rel.cells {b : B} {al : List Addr} {s : S} {σ : L2.St} {H : Hp} (r : Rel g b al s σ H) : CellsOk g.K al s.h H := ⟨r.alen, r.nd, r.cell⟩
/-- the cells have changed, all else stands -/
theorem _root_.PI.Rel.keep {b : B} {al : List Addr} {s : S} {σ : L2.St} {H H' : Hp} (r : Rel g b al s σ H) {h' : List (List D)} (k : Keep al H H') (c : CellsOk g.K al h' H') : Ext al H H' ∧ Rel g b al { s with h := h' } σ H' := by
  have na : ∀ a o, H a = some o → (∀ vs, o ≠ .lst vs) → a ∉ al := fun a o e n ha => by
    obtain ⟨vs, z⟩ := r.alTracked ha
    rw [e] at z; cases z
    exact n vs rfl
  have st : Stay H H' := ⟨fun a xs e => k a _ (na a _ e fun _ z => nomatch z) e, fun a o u e => k a _ (na a _ e fun _ z => nomatch z) e, fun a fs e => k a _ (na a _ e fun _ z => nomatch z) e⟩
  refine ⟨⟨st, fun a vs n e => .inl (k a _ n e)⟩, r.len, fun i x e => ?_, r.inj, c.cell, c.alen, c.nd, fun a o e n => ?_, r.anew, r.apre⟩
  · obtain ⟨v, e1, q⟩ := r.sl i x e
    refine ⟨v, e1, ?_⟩
    cases x with
    | val d => exact q.stay st fun _ _ z => z
    | own ds =>
      obtain ⟨a, vs, ev, h1, h2, h3, h4⟩ := q
      exact ⟨a, vs, ev, k _ _ h3 h1, h2.stay st fun _ _ z => z, h3, h4⟩
    | dct kvs =>
      obtain ⟨a, vs, ev, h1, h2, h3, h4⟩ := q
      exact ⟨a, vs, ev, k _ _ h3 h1, h2.stay st fun _ _ z => z, h3, h4⟩
    | ldk kvs =>
      obtain ⟨a, o, ws, e1, e2, e3, e4, e5, e6⟩ := q
      exact ⟨a, o, ws, e1, e2, st.frz _ _ _ e3, e4.stay st fun _ _ z => z, e5, e6⟩
    | exc c d =>
      obtain ⟨a, dd, w, e1, e2, e3, e4⟩ := q
      exact ⟨a, dd, w, e1, e2, st.xd _ _ e3, e4.stay st fun _ _ z => z⟩
  · by_cases ha : a ∈ al
    · rcases r.anew a ha with z | z
      · exact absurd z n
      · rw [z] at e; cases e
    · exact k _ _ ha (r.base a o e n)
theorem pe_call' {lv : Nat} {f : Str} {a : Addr} {fd : FuncData} {ps : List Str} {Φ : Fns} {e1 : Expr} {es : List Expr} {k : S → Res (List D)} {p pos : Pos}
    (F : FnOk X.prog X.w X.K X.mg X.base (L2.CX X.prog X.w) lv a fd ps (spF g Φ f ps.length)) (hr : Room lv X.A) (hg : Gl X f) (hm : X.mg f = some (.ref a)) (hk : PySem.W.keepIn X.K (.ref a) = true) (hb : Binds X.K fd ps []) (tk : Takes X W)
    (ha : PA X (e1 :: es) (rdA g W false k)) (hs : (e1 :: es).all notStar = true) (hn : (e1 :: es).length = ps.length) (hl : ∀ s ds s', k s = .ok ds s' → ds.length = (e1 :: es).length) (hdb : (f == ("__debug__" : Str)) = false) :
    PE X (.Call (.Name f p) (e1 :: es) [] pos) (rdE g W fun s => (k s).bind fun ds s => match Φ f ds s.h with
      | .ok (.val d) h => .ok (.val d) { s with h := h }
      | .ok (.own l) h => .ok (.own l) { s with h := h }
      | .ok (.dct l) h => .ok (.dct l) { s with h := h }
      | .exc c d h => .exc c d { s with h := h }
      | _ => .bad) := by
  have hs' := hs
  simp only [List.all_cons, Bool.and_eq_true] at hs'
  refine (pe_callS F hr hg hm hk hb (fun σ => passAt tk σ) ha hdb (star_cons hs'.1 es X.env) (stars_false es X.env pos hs'.2)).mono fun σ H Q ⟨b, al, s, R, P⟩ => ⟨b, al, s, R, ?_⟩
  rw [postX_bind] at P
  cases q : k s with
  | ok ds s1 =>
    rw [q] at P
    intro vs H1 x1 R1 r1
    simp only [Bool.false_eq_true, if_false] at r1
    have hd := hl s ds s1 q
    refine ⟨al, ds, s1.h, by rw [← r1.length, hd, hn], r1, R1.cells, ?_⟩
    have P : PostX g b al W σ H (okR g b al σ H (fun r s' v H' => RVRep g b al s' σ H' r v) Q) (match Φ f ds s1.h with
      | .ok (.val d) h => .ok (.val d) { s1 with h := h }
      | .ok (.own l) h => .ok (.own l) { s1 with h := h }
      | .ok (.dct l) h => .ok (.dct l) { s1 with h := h }
      | .exc c d h => .exc c d { s1 with h := h }
      | _ => .bad) := P
    cases w : Φ f ds s1.h with
    | ok r h' =>
      rw [w] at P
      intro v H' kp c fr
      obtain ⟨x2, R2⟩ := R1.keep kp c
      cases r with
      | val d => exact P v H' (x1.trans x2) R2 fr
      | own l =>
        obtain ⟨a, vs, rfl, h1, h2, h3⟩ := fr
        exact P _ H' (x1.trans x2) R2 ⟨a, vs, rfl, h1, h2, R1.notAl h3, R1.newBase h3, R1.away h3⟩
      | dct l =>
        obtain ⟨a, vs, rfl, h1, h2, h3⟩ := fr
        exact P _ H' (x1.trans x2) R2 ⟨a, vs, rfl, h1, h2, R1.notAl h3, R1.newBase h3, R1.away h3⟩
      | loc _ _ => exact P.elim
      | ldc _ _ => exact P.elim
    | exc c d h' =>
      rw [w] at P
      intro cls dd H' kp cc er
      obtain ⟨x2, R2⟩ := R1.keep kp cc
      exact P cls dd H' (x1.trans x2) R2 er
    | bad => rw [w] at P; exact P.elim
  | exc c d s1 => rw [q] at P; exact P
  | bad => rw [q] at P; exact P
def blName : Bl → Str
  | .len => "len" | .abs => "abs" | .int => "int" | .max2 => "max" | .min2 => "min" | .sum => "sum" | .all => "all" | .any => "any" | .tuple => "tuple" | .list => "list" | .sorted => "sorted" | .bits => "bit_length" | .max1 => "max" | .min1 => "min"
theorem bl_boot (f : Bl) (hf : f ≠ .bits) : bootBuiltins (blName f) = some (blVal f) := by
  cases f <;> first | exact absurd rfl hf | decide +kernel
theorem pe_blt {f : Bl} (hf : f ≠ .bits) {e1 : Expr} {es : List Expr} {k : S → Res (List D)} {p pos : Pos} (hK : X.K = g.K) (hc : X.calm = true) (hu : X.A.units + 65 < cLine) (hg : Gl X (blName f)) (hm : X.mg (blName f) = none)
    (ha : PA X (e1 :: es) (rdA g W true k)) (hs : (e1 :: es).all notStar = true) :
    PE X (.Call (.Name (blName f) p) (e1 :: es) [] pos) (rdE g W fun s => (k s).bind fun ds s => ofO (bltD f ds) s) := by
  have hs' := hs
  simp only [List.all_cons, Bool.and_eq_true] at hs'
  obtain ⟨r, hr, hv⟩ := bltR (X := X) hK hc hu f hf
  have hb := bl_boot f hf
  have main : PE X (.Call (.Name (blName f) p) (e1 :: es) [] pos) (tCB r (rdA g W true k)) := by
    have hn : blName f ≠ "__name__" := by cases f <;> decide
    have hd : (blName f == ("__debug__" : Str)) = false := by cases f <;> decide
    cases f <;> first | exact absurd rfl hf | exact pe_callB hr hg hm hb ha hn hd (star_cons hs'.1 es X.env) (stars_false es X.env pos hs'.2) | exact pe_callTy hr hg hm hb ha hn hd (star_cons hs'.1 es X.env) (stars_false es X.env pos hs'.2)
  refine main.mono fun σ H Q ⟨b, al, s, R, P⟩ => ⟨b, al, s, R, ?_⟩
  rw [postX_bind] at P
  refine P.mono fun ds s1 p vs H1 x1 R1 r1 => ?_
  simp only [if_true] at r1
  obtain ⟨rv, e, p3⟩ := postX_ofO p
  exact hv b al s1 σ H1 Q ds vs rv R1 r1 e fun w H3 x3 R3 r3 => p3 w H3 (x1.trans x3) R3 r3
theorem pe_bits' {a : Expr} {fa : S → Res D} {apos pos : Pos} (ha : PE X a (rdP g W fa)) (hbase : attributeBase a "bit_length" X.env (eval a X.env) = eval a X.env) (hline : (apos.endLine == pos.line) = true) :
    PE X (.Call (.Attribute a "bit_length" apos) [] [] pos) (rdE g W fun s => ((fa s).bind fun d s => .ok [d] s).bind fun ds s => ofO (bltD .bits ds) s) := by
  refine (pe_bits ha hbase hline).mono fun σ H Q ⟨b, al, s, R, P⟩ => ⟨b, al, s, R, ?_⟩
  rw [postX_bind, postX_bind] at P
  refine P.mono fun x s1 p v H1 x1 R1 r1 => ?_
  cases x with
  | int i =>
    refine ⟨i, r1.int, ?_⟩
    have := p (.int (if i = 0 then 0 else i.natAbs.log2 + 1)) H1 x1 R1 (by unfold RVRep Rep; rfl)
    have e : ((Builtin.Int.intBits i : Nat) : Int) = (if i = 0 then 0 else ((i.natAbs.log2 : Nat) : Int) + 1) := by
      unfold Builtin.Int.intBits
      split
      · rename_i h
        rw [if_pos (by simpa using h)] <;> rfl
      · rename_i h
        rw [if_neg (by simpa using h)]
        push_cast
        rfl
    rw [e]
    exact this
  | _ => exact p.elim
theorem boot_ty (t : Ty) : bootBuiltins (tyName t) = some (.type (tyName t)) := by cases t <;> decide +kernel
theorem pe_isi {a : Expr} {fa : S → Res D} {t : Ty} {p p2 pos : Pos} (hK : X.K = g.K) (ha : PE X a (rdP g W fa)) (hs : notStar a = true) (hg : Gl X "isinstance") (hm : X.mg "isinstance" = none) (hg2 : Gl X (tyName t)) (hm2 : X.mg (tyName t) = none) :
    PE X (.Call (.Name "isinstance" p) [a, .Name (tyName t) p2] [] pos) (rdE g W fun s => (fa s).bind fun x s => match isTy t x with | some c => .ok (.val (.bl c)) s | none => .bad) := by
  have hn : (Str.ofString (tyName t)) ≠ "__name__" := by cases t <;> decide
  have hd : ((Str.ofString (tyName t)) == ("__debug__" : Str)) = false := by cases t <;> decide
  have h2 : PE X (.Name (tyName t) p2) (tC (.ty (tyName t))) := pe_bltn hg2 hm2 (boot_ty t) rfl hn hd
  refine (pe_callB (call_isi (X := X)) hg hm (by decide +kernel) (pa_cons ha (pa_cons h2 pa_nil) (star_cons hs _ _)) (by decide) (by decide) (star_cons hs _ _) rfl).mono fun σ H Q ⟨b, al, s, R, P⟩ => ⟨b, al, s, R, ?_⟩
  rw [postX_bind] at P
  refine P.mono fun x s1 p v H1 x1 R1 r1 => ?_
  cases q : isTy t x with
  | none => rw [q] at p; exact p.elim
  | some c =>
    rw [q] at p
    obtain ⟨u, h1, h2⟩ := r1.ty hK q
    exact ⟨v, .ty (tyName t), u, .type (tyName t), c, rfl, .ty _, h1, h2, p _ H1 x1 R1 (by unfold RVRep Rep; rfl)⟩

/-! ### slices -/
def rdO (g : G) (W : WX) (f : S → Res (Option Int)) : TO := fun σ H Q => ∃ b al s, Rel g b al s σ H ∧ PostX g b al W σ H (fun o s' => ∀ H', Ext al H H' → Rel g b al s' σ H' → Q o H') (f s)
theorem po_none' : PO X none (rdO g W fun s => .ok none s) := ⟨fun pins s σ H Q I ⟨b, al, t, R, P⟩ => po_none.run pins s σ H Q I (P H Ext.refl R)⟩
theorem po_some' {f : S → Res D} (h : PE X e (rdP g W f)) : PO X (some e) (rdO g W fun s => (toI (f s)).bind fun i s => .ok (some i) s) := ⟨fun pins s σ H Q I ⟨b, al, t, R, P⟩ => by
  refine (po_some h).run pins s σ H Q I ?_
  refine ⟨b, al, t, R, ?_⟩
  rw [postX_bind] at P
  unfold toI at P
  rw [postX_bind] at P
  refine P.mono fun x s1 p v H1 x1 R1 r1 => ?_
  cases x with
  | int i => exact ⟨i, r1.int, p H1 x1 R1⟩
  | _ => exact p.elim⟩
theorem sEnd_eq (n d : Nat) (o : Option Int) : sEnd n d o = HT.sIx n d o := by cases o <;> rfl
theorem pe_slc {a : Expr} {lo hi : Option Expr} {fa : S → Res D} {fl fh : S → Res (Option Int)} {p2 pos : Pos} (hK : X.K = g.K) (ha : PE X a (rdP g W fa)) (hl : PO X lo (rdO g W fl)) (hh : PO X hi (rdO g W fh)) :
    PE X (.Subscript a (.Slice lo hi none p2) pos) (rdE g W fun s => (fa s).bind fun x s => (fl s).bind fun l s => (fh s).bind fun u s => match x with
      | .tup ds => .ok (.val (.tup (cutD ds l u))) s
      | .lst ds => .ok (.own (cutD ds l u)) s
      | _ => .bad) := by
  refine (pe_slice (SlR.or (sl_tupA (X := X)) (sl_list (X := X))) ha hl hh).mono fun σ H Q ⟨b, al, s, R, P⟩ => ⟨b, al, s, R, ?_⟩
  rw [postX_bind] at P
  refine P.mono fun x s1 p v H1 x1 R1 r1 => ⟨b, al, s1, R1, ?_⟩
  rw [postX_bind] at p
  refine p.shift x1 fun l s2 p2 H2 x2 R2 => ⟨b, al, s2, R2, ?_⟩
  rw [postX_bind] at p2
  refine p2.shift (x1.trans x2) fun u s3 p3 H3 x3 R3 => ?_
  have r3 := (r1.ext x2).ext x3
  have x' := (x1.trans x2).trans x3
  cases x with
  | tup ds =>
    obtain ⟨q, vs, rfl, h1, r⟩ := r3.tup
    have a : Aft g b al s3 σ H3 (.val (.tup (cutD ds l u))) Q := fun w H4 x4 R4 r4 => p3 w H4 (x'.trans x4) R4 r4
    have rc : Reps g.K al H3 (cutD ds l u) (cutV vs l u) := by
      unfold cutD cutV
      rw [sEnd_eq, sEnd_eq, r.length]
      exact (r.drop _).take _
    refine .inl ⟨q, vs, rfl, by rw [hK]; exact h1, fun ⟨z1, z2⟩ => a.tupAt R3 h1 ?_, fun _ => a.tup R3 rc⟩
    have : cutV vs l u = vs := by
      unfold cutV
      rw [z1, z2]
      simp
    rw [this] at rc
    exact rc
  | lst ds =>
    obtain ⟨q, vs, rfl, h1, r⟩ := r3.lst
    have a : Aft g b al s3 σ H3 (.own (cutD ds l u)) Q := fun w H4 x4 R4 r4 => p3 w H4 (x'.trans x4) R4 r4
    have rc : Reps g.K al H3 (cutD ds l u) (cutV vs l u) := by
      unfold cutD cutV
      rw [sEnd_eq, sEnd_eq, r.length]
      exact (r.drop _).take _
    exact .inr ⟨q, vs, rfl, .inl h1, a.new R3 rc⟩
  | _ => exact p3.elim

/-! ### comparisons in a chain -/
def cmpPost (g : G) (W : WX) (σ : L2.St) (H : Hp) (v : V) (Q : Bool → Hp → Prop) (f : D → S → Res Bool) : Prop :=
  ∃ b al s x, Rel g b al s σ H ∧ PRep g.K al H x v ∧ PostX g b al W σ H (fun c s' => ∀ H', Ext al H H' → Rel g b al s' σ H' → Q c H') (f x s)
/-- what a chain's rest does from a value on -/
structure CH (X : Cx) (g : G) (W : WX) (ops : List CmpOp) (es : List Expr) (f : D → S → Res Bool) : Prop where
  val : ∀ (pos : Pos) (pins : List (Addr × Obj)) (s : Shared) (σ : L2.St) (H : Hp) (v : V) (u : Value) (Q : VK), Inv X pins σ H s → RelV v u → cmpPost g W σ H v (fun c H' => Q (.bl c) H') f →
    wpAny (model X.prog X.w) X.A (compareChain pos u ops (evalEach es X.env)) (EP X pins σ Q) X.xe s
  test : ∀ (pos : Pos) (pins : List (Addr × Obj)) (s : Shared) (σ : L2.St) (H : Hp) (v : V) (u : Value) (Q : Bool → Hp → Prop), Inv X pins σ H s → RelV v u → cmpPost g W σ H v Q f →
    wpAny (model X.prog X.w) X.A (testChain pos u ops (evalEach es X.env)) (TP X pins σ Q) X.xe s
theorem cmp_ok {b : B} {al : List Addr} {σ : L2.St} {H : Hp} {o : COp} {x y : D} {s : S} {k : Bool → Res Bool} {ok : Bool → S → Prop} (h : PostX g b al W σ H ok (match cmpD o x y with | none => .bad | some c => k c)) :
    ∃ c, cmpD o x y = some c ∧ PostX g b al W σ H ok (k c) := by
  cases q : cmpD o x y with
  | none => rw [q] at h; exact h.elim
  | some c => rw [q] at h; exact ⟨c, rfl, h⟩
theorem ch_one (hK : X.K = g.K) (hu : X.A.units + 65 < cLine) {o : COp} {fe : S → Res D} (he : PE X e (rdP g W fe)) :
    CH X g W [copOf o] [e] (fun x s => (fe s).bind fun y s => match cmpD o x y with | none => .bad | some c => .ok c s) := by
  obtain ⟨r, hr, hv⟩ := cmpR (X := X) hK hu o
  refine ⟨fun pos pins s σ H v u Q I rv ⟨b, al, t, x, R, px, P⟩ => ?_, fun pos pins s σ H v u Q I rv ⟨b, al, t, x, R, px, P⟩ => ?_⟩
  · rw [postX_bind] at P
    refine chain_last (thn (he.run pins s σ H (fun w H' => r v w H' Q) I ⟨b, al, t, R, P.mono fun y s1 p w H1 x1 R1 r1 => ?_⟩) fun u2 s2 ⟨w, H2, I2, r2, q2⟩ => hr pins s2 σ H2 v w u u2 Q I2 rv r2 q2)
    obtain ⟨c, e1, p2⟩ := cmp_ok (s := s1) p
    exact hv al H1 Q x y v w c (px.ext x1) r1 e1 (p2 H1 x1 R1)
  · rw [postX_bind] at P
    refine test_last (thn (he.run pins s σ H (fun w H' => r v w H' fun z H2 => ∃ c, z = .bl c ∧ Q c H2) I ⟨b, al, t, R, P.mono fun y s1 p w H1 x1 R1 r1 => ?_⟩) fun u2 s2 ⟨w, H2, I2, r2, q2⟩ => thn (hr pins s2 σ H2 v w u u2 _ I2 rv r2 q2) fun u3 s3 ⟨z, H3, I3, r3, c, e3, q3⟩ => ?_)
    · obtain ⟨c, e1, p2⟩ := cmp_ok (s := s1) p
      exact hv al H1 _ x y v w c (px.ext x1) r1 e1 ⟨c, rfl, p2 H1 x1 R1⟩
    · subst e3
      cases r3
      exact wpAny_truthy_bool ⟨H3, I3, q3⟩
theorem ch_more (hK : X.K = g.K) (hu : X.A.units + 65 < cLine) {o : COp} {op2 : CmpOp} {ops : List CmpOp} {e2 : Expr} {es : List Expr} {fe : S → Res D} {k : D → S → Res Bool} (he : PE X e (rdP g W fe)) (hk : CH X g W (op2 :: ops) (e2 :: es) k) :
    CH X g W (copOf o :: op2 :: ops) (e :: e2 :: es) (fun x s => (fe s).bind fun y s => match cmpD o x y with | none => .bad | some c => if c then k y s else .ok false s) := by
  obtain ⟨r, hr, hv⟩ := cmpR (X := X) hK hu o
  refine ⟨fun pos pins s σ H v u Q I rv ⟨b, al, t, x, R, px, P⟩ => ?_, fun pos pins s σ H v u Q I rv ⟨b, al, t, x, R, px, P⟩ => ?_⟩
  · rw [postX_bind] at P
    refine chain_link (thn (he.run pins s σ H (fun w H' => r v w H' fun z H2 => ∃ c, z = .bl c ∧ if c = true then cmpPost g W σ H2 w (fun c H' => Q (.bl c) H') k else Q (.bl false) H2) I ⟨b, al, t, R, P.mono fun y s1 p w H1 x1 R1 r1 => ?_⟩)
      fun u2 s2 ⟨w, H2, I2, r2, q2⟩ => thn (hr pins s2 σ H2 v w u u2 _ I2 rv r2 q2) fun u3 s3 ⟨z, H3, I3, r3, c, e3, q3⟩ => ?_)
    · obtain ⟨c, e1, p2⟩ := cmp_ok (s := s1) p
      refine hv al H1 _ x y v w c (px.ext x1) r1 e1 ⟨c, rfl, ?_⟩
      cases c with
      | true => exact ⟨b, al, s1, y, R1, r1, p2.shift x1 fun c s3 p3 H3 x3 => p3 H3 (x1.trans x3)⟩
      | false => exact p2 H1 x1 R1
    · subst e3
      cases r3
      refine wpAny_truthy_bool ?_
      cases c with
      | true => exact hk.val pos pins s3 σ H3 w u2 Q I3 r2 q3
      | false => exact ⟨.bl false, H3, I3, rfl, q3⟩
  · rw [postX_bind] at P
    refine test_link (thn (he.run pins s σ H (fun w H' => r v w H' fun z H2 => ∃ c, z = .bl c ∧ if c = true then cmpPost g W σ H2 w Q k else Q false H2) I ⟨b, al, t, R, P.mono fun y s1 p w H1 x1 R1 r1 => ?_⟩)
      fun u2 s2 ⟨w, H2, I2, r2, q2⟩ => thn (hr pins s2 σ H2 v w u u2 _ I2 rv r2 q2) fun u3 s3 ⟨z, H3, I3, r3, c, e3, q3⟩ => ?_)
    · obtain ⟨c, e1, p2⟩ := cmp_ok (s := s1) p
      refine hv al H1 _ x y v w c (px.ext x1) r1 e1 ⟨c, rfl, ?_⟩
      cases c with
      | true => exact ⟨b, al, s1, y, R1, r1, p2.shift x1 fun c s3 p3 H3 x3 => p3 H3 (x1.trans x3)⟩
      | false => exact p2 H1 x1 R1
    · subst e3
      cases r3
      refine wpAny_truthy_bool ?_
      cases c with
      | true => exact hk.test pos pins s3 σ H3 w u2 Q I3 r2 q3
      | false => exact ⟨H3, I3, q3⟩
theorem pe_cmp' {a : Expr} {fa : S → Res D} {op : CmpOp} {ops : List CmpOp} {es : List Expr} {k : D → S → Res Bool} {pos : Pos} (hk : CH X g W (op :: ops) (e :: es) k) (ha : PE X a (rdP g W fa)) (hm : lastMarks (op :: ops) (e :: es) = false) (hl : ops.length = es.length) :
    PE X (.Compare a (op :: ops) (e :: es) pos) (rdE g W fun s => (fa s).bind fun x s => (k x s).bind fun c s => .ok (.val (.bl c)) s) ∧
    PT X (.Compare a (op :: ops) (e :: es) pos) (rdT g W fun s => toT (toP ((fa s).bind fun x s => (k x s).bind fun c s => .ok (.val (.bl c)) s))) := by
  have step : ∀ {pins : List (Addr × Obj)} {s : Shared} {σ : L2.St} {H : Hp} {Q : Bool → Hp → Prop} {b : B} {al : List Addr} {t : S}, Inv X pins σ H s → Rel g b al t σ H →
      PostX g b al W σ H (fun x s1 => PostX g b al W σ H (fun c s' => ∀ H', Ext al H H' → Rel g b al s' σ H' → Q c H') (k x s1)) (fa t) →
      wpAny (model X.prog X.w) X.A (eval a X.env) (fun u s1 => ∃ v H1, Inv X pins σ H1 s1 ∧ RelV v u ∧ cmpPost g W σ H1 v Q k) X.xe s := fun {pins s σ H Q b al t} I R P =>
    thn (ha.run pins s σ H (fun v H1 => cmpPost g W σ H1 v Q k) I ⟨b, al, t, R, P.mono fun x s1 p v H1 x1 R1 r1 => ⟨b, al, s1, x, R1, r1, p.shift x1 fun c s2 p2 H2 x2 => p2 H2 (x1.trans x2)⟩⟩) fun u s1 ⟨v, H1, I1, r1, q1⟩ => ⟨v, H1, I1, r1, q1⟩
  constructor
  · refine ⟨fun pins s σ H Q I ⟨b, al, t, R, P⟩ => ?_⟩
    rw [postX_bind] at P
    have P' := step (Q := fun c H' => Q (.bl c) H') I R (P.mono fun x s1 p => by
      rw [postX_bind] at p
      exact p.mono fun c s2 p2 H2 x2 R2 => p2 _ H2 x2 R2 (by unfold RVRep Rep; rfl))
    cases ops with
    | nil =>
      cases es with
      | cons _ _ => cases hl
      | nil =>
        show wpAny _ _ (do compareChain pos (← eval a X.env) [op] (markedEach [op] [e] (evalEach [e] X.env))) _ _ _
        rw [markedEach_of_false _ _ _ hm]
        exact wpAny_bind (thn P' fun u s1 ⟨v, H1, I1, r1, q1⟩ => hk.val pos pins s1 σ H1 v u Q I1 r1 q1)
    | cons op2 ops =>
      cases es with
      | nil => cases hl
      | cons e2 es => exact Compare_chain (thn P' fun u s1 ⟨v, H1, I1, r1, q1⟩ => hk.val pos pins s1 σ H1 v u Q I1 r1 q1) hm
  · refine ⟨fun pins s σ H Q I ⟨b, al, t, R, P⟩ => ?_⟩
    unfold toT toP at P
    rw [postX_bind, postX_bind, postX_bind] at P
    have P' := step (Q := Q) I R (P.mono fun x s1 p => by
      rw [postX_bind] at p
      exact p.mono fun c s2 p2 H2 x2 R2 => p2 H2 x2 R2)
    cases ops with
    | nil =>
      cases es with
      | cons _ _ => cases hl
      | nil =>
        show wpAny _ _ (do testChain pos (← eval a X.env) [op] (markedEach [op] [e] (evalEach [e] X.env))) _ _ _
        rw [markedEach_of_false _ _ _ hm]
        exact wpAny_bind (thn P' fun u s1 ⟨v, H1, I1, r1, q1⟩ => hk.test pos pins s1 σ H1 v u Q I1 r1 q1)
    | cons op2 ops =>
      cases es with
      | nil => cases hl
      | cons e2 es => exact isTrue_chain (thn P' fun u s1 ⟨v, H1, I1, r1, q1⟩ => hk.test pos pins s1 σ H1 v u Q I1 r1 q1) hm
end
end PI

namespace PI
open PySem PySem.Spec PyProof.Rows L2
section
variable {X : Cx} {e : Expr} {g : G} {W : WX}
def rdI (g : G) (W : WX) (f : S → Res (List D)) : TI := fun σ H R => ∃ b al s, Rel g b al s σ H ∧ PostX g b al W σ H (fun ds s' => ∀ J H', Ext al H H' → Rel g b al s' σ H' → Walks g al J ds H' → R J H') (f s)
theorem pi_seq {tg : Expr} {f : S → Res D} (hK : X.K = g.K) (hl : PE X e (rdV g W f)) : L2.PI X tg e (rdI g W fun s => toL (f s)) := by
  refine ⟨fun pins s σ H R I ⟨b, al, t, Rl, P⟩ => ?_⟩
  unfold toL at P
  rw [postX_bind] at P
  refine thn (hl.run pins s σ H (fun x H1 => ∃ a, x = .ref a ∧ ((∃ xs, SqL X.K H1 a xs ∧ R (Itl X.K a) H1) ∨ (∃ xs, SqT X.K H1 a xs ∧ R (Itt X.K a) H1))) I ⟨b, al, t, Rl, P.mono fun d s1 p v H1 x1 R1 r1 => ?_⟩) fun v s1 ⟨x, H1, I1, r1, q1⟩ => ?_
  · cases d with
    | lst ds =>
      unfold Rep at r1
      obtain ⟨a, vs, rfl, h1, h2⟩ := r1
      exact ⟨a, rfl, .inl ⟨vs, .inl h1.rd, p _ _ x1 R1 (walk_lst h1 h2)⟩⟩
    | tup ds =>
      unfold Rep at r1
      obtain ⟨a, vs, rfl, h1, h2⟩ := r1
      rw [← hK] at h1
      exact ⟨a, rfl, .inr ⟨vs, h1, p _ _ x1 R1 (walk_tup h1 h2)⟩⟩
    | _ => exact p.elim
  · obtain ⟨a, e, q⟩ := q1
    subst e
    cases r1
    rcases q with ⟨xs, hq, q⟩ | ⟨xs, hq, q⟩
    · obtain ⟨its, rv, p, hz⟩ := I1.list hq
      refine wpAny_pyIter_list p.isList ?_
      refine ⟨s1.heap.objs.size, [s1.heap.objs.size], _, _, H1, rfl, I1.kept (t' := s1.toks) fun b o e => Heap.get?_push_of_some _ e, turn_list a _, ⟨_, Heap.get?_push_size _ rfl, rfl, rfl⟩, fun b hb => ?_, q⟩
      have e : b = s1.heap.objs.size := by simpa using hb
      subst e
      exact I1.fpOk (Nat.le_refl _) (I1.hok.fresh (Nat.le_refl _))
    · obtain ⟨its, rv, p, hz⟩ := I1.tuple hq
      refine wpAny_pyIter_tuple (show s1.heap.IsTuple a its.toArray from p) ?_
      refine ⟨s1.heap.objs.size, [s1.heap.objs.size], _, _, H1, rfl, I1.kept (t' := s1.toks) fun b o e => Heap.get?_push_of_some _ e, turn_tuple a _, ⟨_, Heap.get?_push_size _ rfl, rfl, rfl⟩, fun b hb => ?_, q⟩
      have e : b = s1.heap.objs.size := by simpa using hb
      subst e
      exact I1.fpOk (Nat.le_refl _) (I1.hok.fresh (Nat.le_refl _))
theorem smallI_ok {i : Int} (h : smallI i = true) : -(2 ^ 62) ≤ i ∧ i < 2 ^ 62 := by
  unfold smallI at h
  simpa using h
/-- ints as arguments -/
def rdN (g : G) (W : WX) (f : S → Res (List Int)) : TA := fun σ H Q => ∃ b al s, Rel g b al s σ H ∧ PostX g b al W σ H (fun ns s' => ∀ H', Ext al H H' → Rel g b al s' σ H' → Q (ns.map V.int) H') (f s)
theorem pn_nil : PA X [] (rdN g W fun s => .ok [] s) := pa_nil.mono fun σ H Q ⟨b, al, s, R, P⟩ => P H Ext.refl R
theorem pn_cons {es : List Expr} {f : S → Res D} {k : S → Res (List Int)} (hs : notStar e = true) (h : PE X e (rdP g W f)) (hr : PA X es (rdN g W k)) :
    PA X (e :: es) (rdN g W fun s => (toI (f s)).bind fun i s => (k s).bind fun ns s => .ok (i :: ns) s) := by
  refine (pa_cons h hr (star_cons hs es X.env)).mono fun σ H Q ⟨b, al, s, R, P⟩ => ⟨b, al, s, R, ?_⟩
  rw [postX_bind] at P
  unfold toI at P
  rw [postX_bind] at P
  refine P.mono fun d s1 p v H1 x1 R1 r1 => ⟨b, al, s1, R1, ?_⟩
  cases d with
  | int i =>
    rw [r1.int]
    replace p : PostX g b al W σ H (fun ns s' => ∀ H', Ext al H H' → Rel g b al s' σ H' → Q (ns.map V.int) H') ((k s1).bind fun ns s => .ok (i :: ns) s) := p
    rw [postX_bind] at p
    exact p.shift x1 fun ns s2 p2 H2 x2 R2 => p2 H2 (x1.trans x2) R2
  | _ => exact p.elim
theorem bind_assoc {α β γ : Type} (r : Res α) (f : α → S → Res β) (k : β → S → Res γ) : (r.bind f).bind k = r.bind fun a s => (f a s).bind k := by cases r <;> rfl
theorem pi_rng1 {tg : Expr} {f : S → Res D} {p pos : Pos} (hs : notStar e = true) (hg : Gl X "range") (hm : X.mg "range" = none) (h : PE X e (rdP g W f)) :
    L2.PI X tg (.Call (.Name "range" p) [e] [] pos) (rdI g W fun s => (toI (f s)).bind fun i s => if smallI i then .ok (rangeD 0 i.toNat) s else .bad) := by
  refine (pi_range1 hg hm (pn_cons hs h pn_nil) (star_cons hs _ _)).mono fun σ H R ⟨b, al, s, Rl, P⟩ => ⟨b, al, s, Rl, ?_⟩
  rw [postX_bind] at P ⊢
  refine P.mono fun i s1 p H1 x1 R1 => ?_
  split at p
  · rename_i hi
    obtain ⟨h1, h2⟩ := smallI_ok hi
    exact ⟨i, rfl, h1, h2, p _ H1 x1 R1 walk_rng⟩
  · exact p.elim
theorem pi_rng2 {tg e2 : Expr} {f f2 : S → Res D} {p pos : Pos} (hs : notStar e = true) (hs2 : notStar e2 = true) (hg : Gl X "range") (hm : X.mg "range" = none) (h : PE X e (rdP g W f)) (h2 : PE X e2 (rdP g W f2)) :
    L2.PI X tg (.Call (.Name "range" p) [e, e2] [] pos) (rdI g W fun s => (toI (f s)).bind fun i s => (toI (f2 s)).bind fun j s => if smallI i && smallI j then .ok (rangeD i (j - i).toNat) s else .bad) := by
  refine (pi_range2 hg hm (pn_cons hs h (pn_cons hs2 h2 pn_nil)) (by rw [star_cons hs, star_cons hs2] <;> rfl) (by rw [star_cons hs2] <;> rfl)).mono fun σ H R ⟨b, al, s, Rl, P⟩ => ⟨b, al, s, Rl, ?_⟩
  rw [postX_bind] at P ⊢
  refine P.mono fun i s1 p => ?_
  rw [postX_bind] at p ⊢
  rw [postX_bind]
  refine p.mono fun j s2 p2 H1 x1 R1 => ?_
  split at p2
  · rename_i hi
    simp only [Bool.and_eq_true] at hi
    obtain ⟨h1, h2⟩ := smallI_ok hi.1
    obtain ⟨h3, h4⟩ := smallI_ok hi.2
    exact ⟨i, j, rfl, ⟨h1, h2, h3, h4⟩, p2 _ H1 x1 R1 walk_rng⟩
  · exact p2.elim
theorem pi_rng3 {tg e2 e3 : Expr} {f f2 f3 : S → Res D} {p pos : Pos} (hs : notStar e = true) (hs2 : notStar e2 = true) (hs3 : notStar e3 = true) (hg : Gl X "range") (hm : X.mg "range" = none) (h : PE X e (rdP g W f)) (h2 : PE X e2 (rdP g W f2)) (h3 : PE X e3 (rdP g W f3)) :
    L2.PI X tg (.Call (.Name "range" p) [e, e2, e3] [] pos) (rdI g W fun s => (toI (f s)).bind fun i s => (toI (f2 s)).bind fun j s => (toI (f3 s)).bind fun k s =>
      if decide (k ≠ 0) && decide (k.natAbs < 1073741824) && Builtin.Range.small i j k then .ok (rangeC i k (turnsC i j k)) s else .bad) := by
  refine (pi_range3 hg hm (pn_cons hs h (pn_cons hs2 h2 (pn_cons hs3 h3 pn_nil))) (by rw [star_cons hs, star_cons hs2, star_cons hs3] <;> rfl) (stars_false _ _ _ (by simp [hs2, hs3]))).mono fun σ H R ⟨b, al, s, Rl, P⟩ => ⟨b, al, s, Rl, ?_⟩
  rw [postX_bind] at P ⊢
  refine P.mono fun i s1 p => ?_
  rw [postX_bind] at p ⊢
  rw [postX_bind]
  refine p.mono fun j s2 p2 => ?_
  rw [postX_bind] at p2 ⊢
  rw [postX_bind]
  refine p2.mono fun k s3 p3 H1 x1 R1 => ?_
  split at p3
  · rename_i hi
    simp only [Bool.and_eq_true, decide_eq_true_eq] at hi
    obtain ⟨⟨h1, h2⟩, h3⟩ := hi
    have nn : 0 ≤ Builtin.Range.rangeSize i j k := by
      unfold Builtin.Range.rangeSize
      split
      · split
        · have := Int.ediv_nonneg (show 0 ≤ j - i - 1 by omega) (show 0 ≤ k by omega)
          omega
        · omega
      · split
        · have := Int.ediv_nonneg (show 0 ≤ i - j - 1 by omega) (show 0 ≤ -k by omega)
          omega
        · omega
    exact ⟨i, j, k, turnsC i j k, rfl, ⟨h1, h2, h3, by unfold turnsC; omega⟩, p3 _ H1 x1 R1 walk_rngC⟩
  · exact p3.elim
theorem pi_enum' {f : S → Res D} {p pos tpos : Pos} {elts : List Expr} {kk : Nat} (hK : X.K = g.K) (hs : notStar e = true) (hg : Gl X "enumerate") (hm : X.mg "enumerate" = none) (h : PE X e (rdV g W f)) :
    L2.PI X (.Tuple elts kk tpos) (.Call (.Name "enumerate" p) [e] [] pos) (rdI g W fun s => (toLL (f s)).bind fun ds s => .ok (enumD 0 ds) s) := by
  refine (pi_enum hg hm (pa_cons h pa_nil (star_cons hs _ _)) (star_cons hs _ _)).mono fun σ H R ⟨b, al, s, Rl, P⟩ => ⟨b, al, s, Rl, ?_⟩
  rw [postX_bind] at P
  unfold toLL at P
  rw [postX_bind] at P
  refine P.mono fun d s1 p v H1 x1 R1 r1 => ?_
  cases d with
  | lst ds =>
    unfold Rep at r1
    obtain ⟨a, vs, rfl, h1, h2⟩ := r1
    exact ⟨a, vs, rfl, .inl h1.rd, p _ _ x1 R1 (walk_enum h1 h2)⟩
  | _ => exact p.elim
theorem pi_zip' {e2 : Expr} {f f2 : S → Res D} {p pos tpos : Pos} {elts : List Expr} {kk : Nat} (hK : X.K = g.K) (hs : notStar e = true) (hs2 : notStar e2 = true) (hg : Gl X "zip") (hm : X.mg "zip" = none) (h : PE X e (rdV g W f)) (h2 : PE X e2 (rdV g W f2)) :
    L2.PI X (.Tuple elts kk tpos) (.Call (.Name "zip" p) [e, e2] [] pos) (rdI g W fun s => (f s).bind fun x s => (f2 s).bind fun y s => zipR x y s) := by
  refine (RZ.pi_zipA hg hm (pa_cons h (pa_cons h2 pa_nil (star_cons hs2 _ _)) (star_cons hs _ _)) (by rw [star_cons hs]) (stars_false _ _ _ (by simp [hs2]))).mono fun σ H R ⟨b, al, s, Rl, P⟩ => ⟨b, al, s, Rl, ?_⟩
  rw [postX_bind] at P
  refine P.mono fun d s1 p v H1 x1 R1 r1 => ⟨b, al, s1, R1, ?_⟩
  rw [postX_bind] at p
  refine p.shift x1 fun d2 s2 p2 v2 H2 x2 R2 r2 => ?_
  have r1' := r1.stay (al' := al) x2.st fun _ _ z => z
  cases d with
  | lst ds =>
    cases d2 with
    | lst es =>
      unfold Rep at r1' r2
      obtain ⟨a, vs, rfl, h1, h2⟩ := r1'
      obtain ⟨a2, ws, rfl, h3, h4⟩ := r2
      exact ⟨a, a2, vs, ws, rfl, .inl ⟨.inl h1.rd, .inl h3.rd, p2 _ _ (x1.trans x2) R2 (walk_zipL h1 h2 h3 h4)⟩⟩
    | _ => exact p2.elim
  | tup ds =>
    cases d2 with
    | tup es =>
      unfold Rep at r1' r2
      obtain ⟨a, vs, rfl, h1, h2⟩ := r1'
      obtain ⟨a2, ws, rfl, h3, h4⟩ := r2
      rw [← hK] at h1 h3
      exact ⟨a, a2, vs, ws, rfl, .inr ⟨h1, h3, p2 _ _ (x1.trans x2) R2 (walk_zipT h1 h2 h3 h4)⟩⟩
    | _ => exact p2.elim
  | _ => exact p2.elim
theorem pi_revd {tg : Expr} {f : S → Res D} {p pos : Pos} (hK : X.K = g.K) (hs : notStar e = true) (hg : Gl X "reversed") (hm : X.mg "reversed" = none) (h : PE X e (rdV g W f)) :
    L2.PI X tg (.Call (.Name "reversed" p) [e] [] pos) (rdI g W fun s => (toL (f s)).bind fun ds s => .ok ds.reverse s) := by
  refine (RT.pi_revA hg hm h (star_cons hs _ _)).mono fun σ H R ⟨b, al, s, Rl, P⟩ => ⟨b, al, s, Rl, ?_⟩
  rw [postX_bind] at P
  unfold toL at P
  rw [postX_bind] at P
  refine P.mono fun d s1 p v H1 x1 R1 r1 => ?_
  cases d with
  | lst ds =>
    unfold Rep at r1
    obtain ⟨a, vs, rfl, h1, h2⟩ := r1
    exact ⟨a, vs, rfl, .inl ⟨.inl h1.rd, p _ _ x1 R1 (walk_revL h1 h2)⟩⟩
  | tup ds =>
    unfold Rep at r1
    obtain ⟨a, vs, rfl, h1, h2⟩ := r1
    rw [← hK] at h1
    exact ⟨a, vs, rfl, .inr ⟨h1, p _ _ x1 R1 (walk_revT h1 h2)⟩⟩
  | _ => exact p.elim
end
end PI

namespace PI
open PySem PySem.Spec PyProof.Rows L2

/-! ### slots -/
section
variable {g : G} {b : B} {al : List Addr} {s : S} {σ : L2.St} {H : Hp}
theorem Rel.setVal (r : Rel g b al s σ H) (i : Nat) {d : D} {v : V} (q : Rep g.K al H d v) : Rel g b al { s with t := s.t.set i (some (.val d)) } (σ.set i (some v)) H := by
  refine ⟨by rw [List.length_set, List.length_set]; exact r.len, fun j x e => ?_, fun j k x y a hjk ej ek ox oy e1 => ?_, r.cell, r.alen, r.nd, r.base, r.anew, r.apre⟩
  · dsimp only at e
    by_cases hj : i = j
    · subst hj
      by_cases hl : i < s.t.length
      · rw [List.getElem?_set_self hl] at e
        cases e
        exact ⟨v, by rw [List.getElem?_set_self (by rw [← r.len]; exact hl)], q⟩
      · rw [List.getElem?_eq_none (by rw [List.length_set]; omega)] at e
        cases e
    · rw [List.getElem?_set_ne hj] at e
      rw [List.getElem?_set_ne hj]
      exact r.sl j x e
  · dsimp only at ej ek
    have nj : i ≠ j := fun z => by
      subst z
      by_cases hl : i < s.t.length
      · rw [List.getElem?_set_self hl] at ej; cases ej; cases ox
      · rw [List.getElem?_eq_none (by rw [List.length_set]; omega)] at ej; cases ej
    have nk : i ≠ k := fun z => by
      subst z
      by_cases hl : i < s.t.length
      · rw [List.getElem?_set_self hl] at ek; cases ek; cases oy
      · rw [List.getElem?_eq_none (by rw [List.length_set]; omega)] at ek; cases ek
    rw [List.getElem?_set_ne nj] at ej e1
    rw [List.getElem?_set_ne nk] at ek ⊢
    exact r.inj j k x y a hjk ej ek ox oy e1
/-- less is known of the slots -/
theorem Rel.less (r : Rel g b al s σ H) {t : List (Option Sl)} {σ' : L2.St} (hl : t.length = σ'.length) (h : ∀ (j : Nat) (x : Sl), t[j]? = some (some x) → s.t[j]? = some (some x) ∧ σ'[j]? = σ[j]?) : Rel g b al { s with t := t } σ' H := by
  refine ⟨hl, fun j x e => ?_, fun j k x y a hjk ej ek ox oy e1 => ?_, r.cell, r.alen, r.nd, r.base, r.anew, r.apre⟩
  · obtain ⟨h1, h2⟩ := h j x e
    rw [h2]
    exact r.sl j x h1
  · obtain ⟨h1, h2⟩ := h j x ej
    obtain ⟨h3, h4⟩ := h k y ek
    rw [h2] at e1
    rw [h4]
    exact r.inj j k x y a hjk h1 h3 ox oy e1
def SameOff (ids : List Nat) (σ σ2 : L2.St) : Prop := σ2.length = σ.length ∧ ∀ j, j ∉ ids → σ2[j]? = σ[j]?
theorem wipeT_get {t : List (Option Sl)} : ∀ {ids : List Nat} {j : Nat} {x : Sl}, (wipeT t ids)[j]? = some (some x) → t[j]? = some (some x) ∧ j ∉ ids
  | [], j, x, h => ⟨h, by simp⟩
  | i :: ids, j, x, h => by
    unfold wipeT at h
    by_cases hj : i = j
    · subst hj
      by_cases hl : i < (wipeT t ids).length
      · rw [List.getElem?_set_self hl] at h; cases h
      · rw [List.getElem?_eq_none (by rw [List.length_set]; omega)] at h; cases h
    · rw [List.getElem?_set_ne hj] at h
      obtain ⟨h1, h2⟩ := wipeT_get h
      exact ⟨h1, by simp only [List.mem_cons, not_or]; exact ⟨fun z => hj z.symm, h2⟩⟩
theorem wipeT_length (t : List (Option Sl)) : ∀ ids : List Nat, (wipeT t ids).length = t.length
  | [] => rfl
  | i :: ids => by unfold wipeT; rw [List.length_set, wipeT_length t ids]
theorem wipe_off {σ : L2.St} : ∀ {ids : List Nat} {j : Nat}, j ∉ ids → (wipe σ ids)[j]? = σ[j]?
  | [], j, _ => rfl
  | i :: ids, j, h => by
    unfold wipe
    simp only [List.mem_cons, not_or] at h
    rw [List.getElem?_set_ne (fun z => h.1 z.symm)]
    exact wipe_off h.2
theorem wipe_on {σ : L2.St} : ∀ {ids : List Nat} {j : Nat}, j ∈ ids → j < σ.length → (wipe σ ids)[j]? = some none
  | [], j, h, _ => by simp at h
  | i :: ids, j, h, hl => by
    unfold wipe
    by_cases hj : i = j
    · subst hj
      rw [List.getElem?_set_self (by rw [wipe_length]; exact hl)]
    · rw [List.getElem?_set_ne hj]
      rcases List.mem_cons.mp h with z | z
      · exact absurd z.symm hj
      · exact wipe_on z hl
theorem wipe_same {ids : List Nat} {σ σ2 : L2.St} (h : SameOff ids σ σ2) : wipe σ2 ids = wipe σ ids := by
  apply List.ext_getElem?
  intro j
  by_cases hj : j ∈ ids
  · by_cases hl : j < σ.length
    · rw [wipe_on hj hl, wipe_on hj (by rw [h.1]; exact hl)]
    · rw [List.getElem?_eq_none (by rw [wipe_length, h.1]; omega), List.getElem?_eq_none (by rw [wipe_length]; omega)]
  · rw [wipe_off hj, wipe_off hj, h.2 j hj]
theorem wipe_wipe (σ : L2.St) (ids : List Nat) : wipe (wipe σ ids) ids = wipe σ ids := wipe_same ⟨wipe_length _ _, fun j hj => wipe_off hj⟩
theorem Rel.wipe (r : Rel g b al s σ H) (ids : List Nat) : Rel g b al { s with t := wipeT s.t ids } (L2.wipe σ ids) H :=
  r.less (by rw [wipeT_length, wipe_length]; exact r.len) fun j x e => by
    obtain ⟨h1, h2⟩ := wipeT_get e
    exact ⟨h1, wipe_off h2⟩
end

/-! ### targets -/
structure NmOk (X : Cx) (i : Nat) (x : Str) : Prop where
  ix : X.N[i]? = some x
  loc : Loc X.env.scope x
  fn : X.fn x = true ∨ X.env.scope.names.lookup x = some .local
def gtsOf : List Nat → TGs
  | [] => gNil
  | i :: is => gCons (gName i) (gtsOf is)
def gtOf (K : PySem.W.Frag) : MT → TG
  | .name i => gName i
  | .tup is => gTup K is.length (gtsOf is)
/-- names of a tuple target, in order -/
inductive NmsOk (X : Cx) : List Nat → List Expr → Prop
  | nil : NmsOk X [] []
  | cons {i : Nat} {x : Str} {p : Pos} {is : List Nat} {es : List Expr} : NmOk X i x → NmsOk X is es → NmsOk X (i :: is) (.Name x p :: es)
theorem nms_pgs {X : Cx} (nd : X.N.Nodup) : ∀ {is : List Nat} {es : List Expr}, NmsOk X is es → PGs X es (gtsOf is) ∧ (assignEach es X.env).length = is.length ∧ (assignEach es X.env).findIdx? (·.1) = none
  | [], [], .nil => ⟨pgs_nil, rfl, rfl⟩
  | i :: is, .Name x p :: es, .cons h hs => by
    obtain ⟨hu, hl, hf⟩ := nms_pgs nd hs
    refine ⟨pgs_cons (pg_name nd h.ix h.loc h.fn) hu rfl, by show (assignEach es X.env).length + 1 = _; rw [hl]; rfl, ?_⟩
    show List.findIdx? (·.1) ((false, assign (.Name x p) X.env) :: assignEach es X.env) = none
    rw [List.findIdx?_cons, hf]
    rfl
inductive TgE (X : Cx) : MT → Expr → Prop
  | name {i : Nat} {x : Str} {pos : Pos} : NmOk X i x → TgE X (.name i) (.Name x pos)
  | tup {is : List Nat} {es : List Expr} {k : Nat} {pos : Pos} : X.calm = true → NmsOk X is es → TgE X (.tup is) (.Tuple es k pos)
theorem tg_pg {X : Cx} (nd : X.N.Nodup) {tg : MT} {e : Expr} (h : TgE X tg e) : PG X e (gtOf X.K tg) := by
  cases h with
  | name h => exact pg_name nd h.ix h.loc h.fn
  | tup hc h =>
    obtain ⟨hu, hl, hf⟩ := nms_pgs nd h
    exact pg_tup hc hu hl hf
theorem setAll_len : ∀ (is : List Nat) (ds : List D) (t0 t : List (Option Sl)), setAll t0 is ds = some t → is.length = ds.length
  | [], ds, t0, t, e => by cases ds <;> simp [setAll] at e ⊢
  | i :: is, [], t0, t, e => by simp [setAll] at e
  | i :: is, d :: ds, t0, t, e => by simp only [setAll] at e; simp [setAll_len is ds _ _ e]
theorem gts_run {g : G} : ∀ (is : List Nat) (b : B) (al : List Addr) (s : S) (σ : L2.St) (H : Hp) (ds : List D) (xs : List V) (t : List (Option Sl)) (Q : L2.St → Hp → Prop), Rel g b al s σ H → Reps g.K al H ds xs → setAll s.t is ds = some t →
      (∀ σ2, Rel g b al { s with t := t } σ2 H → SameOff is σ σ2 → Q σ2 H) → gtsOf is xs σ H Q
  | [], b, al, s, σ, H, ds, xs, t, Q, R, r, e, q => by
    cases ds with
    | nil =>
      unfold setAll at e
      cases e
      exact ⟨r.inv0, q σ R ⟨rfl, fun _ _ => rfl⟩⟩
    | cons d ds => simp [setAll] at e
  | i :: is, b, al, s, σ, H, ds, xs, t, Q, R, r, e, q => by
    cases ds with
    | nil => simp [setAll] at e
    | cons d ds =>
      unfold setAll at e
      obtain ⟨v, w, rfl, h1, h2⟩ := r.inv
      refine ⟨v, w, rfl, ?_⟩
      refine gts_run is b al { s with t := s.t.set i (some (.val d)) } _ H ds w t Q (R.setVal i h1) h2 e fun σ2 R2 so => q σ2 R2 ⟨by rw [so.1, List.length_set], fun j hj => ?_⟩
      simp only [List.mem_cons, not_or] at hj
      rw [so.2 j hj.2, List.getElem?_set_ne (fun z => hj.1 z.symm)]
theorem tg_run {K : PySem.W.Frag} {g : G} (hK : K = g.K) (tg : MT) (b : B) (al : List Addr) (s : S) (σ : L2.St) (H : Hp) (d : D) (x : V) (s2 : S) (Q : L2.St → Hp → Prop) (R : Rel g b al s σ H) (r : Rep g.K al H d x) (e : bindT tg d s = some s2)
    (q : ∀ σ2, Rel g b al s2 σ2 H → SameOff tg.ids σ σ2 → Q σ2 H) : gtOf K tg x σ H Q := by
  cases tg with
  | name i =>
    unfold bindT at e
    cases e
    exact q _ (R.setVal i r) ⟨List.length_set, fun j hj => List.getElem?_set_ne (fun z => hj (by simp [MT.ids, z]))⟩
  | tup is =>
    unfold bindT at e
    cases d with
    | tup ds =>
      simp only [Option.map_eq_some_iff] at e
      obtain ⟨t, e1, e2⟩ := e
      subst e2
      unfold Rep at r
      obtain ⟨a, vs, rfl, h1, h2⟩ := r
      rw [← hK] at h1
      refine ⟨a, vs, rfl, h1, by rw [setAll_len is ds _ _ e1, h2.length], gts_run is b al s σ H ds vs t Q R h2 e1 q⟩
    | _ => cases e

/-! ### list comprehensions -/
def B.with (b : B) (D : Addr) (xs : List V) : B := { b with Hb := fun a => if a = D then some (.lst xs) else b.Hb a }
section
variable {g : G} {b : B} {al : List Addr} {s : S} {σ : L2.St} {H : Hp} {A : Addr} {xs : List V}
/-- the list at A is guarded -/
theorem Rel.guard (r : Rel g b al s σ H) (h : H A = some (.lst xs)) (hb : A ∉ b.al) (n : A ∉ al) (aw : Away s.t σ A) : Rel g (b.with A xs) al s σ H := by
  have nb : ∀ a, a ≠ A → (b.with A xs).Hb a = b.Hb a := fun a ha => if_neg ha
  refine ⟨r.len, fun i x e => ?_, r.inj, r.cell, r.alen, r.nd, fun a o e m => ?_, fun a ha => ?_, r.apre⟩
  · obtain ⟨v, e1, q⟩ := r.sl i x e
    refine ⟨v, e1, ?_⟩
    cases x with
    | val d => exact q
    | own ds =>
      obtain ⟨a, vs, ev, h1, h2, h3, h4⟩ := q
      exact ⟨a, vs, ev, h1, h2, h3, by rw [nb a (fun z => by subst ev; subst z; exact aw i _ e rfl e1)]; exact h4⟩
    | dct ds =>
      obtain ⟨a, vs, ev, h1, h2, h3, h4⟩ := q
      exact ⟨a, vs, ev, h1, h2, h3, by rw [nb a (fun z => by subst ev; subst z; exact aw i _ e rfl e1)]; exact h4⟩
    | ldk ds =>
      obtain ⟨a, o, vs, e1, ev, h1, h2, h3, h4⟩ := q
      exact ⟨a, o, vs, e1, ev, h1, h2, h3, by rw [nb a (fun z => by subst z; rw [h] at h1; cases h1)]; exact h4⟩
    | exc c d => exact q
  · by_cases ha : a = A
    · subst ha
      have : (b.with a xs).Hb a = some (.lst xs) := if_pos rfl
      rw [this] at e; cases e
      exact h
    · rw [nb a ha] at e
      exact r.base a o e m
  · have : a ≠ A := fun z => n (z ▸ ha)
    rcases r.anew a ha with z | z
    · exact .inl z
    · exact .inr (by rw [nb a this]; exact z)
/-- .. and no more -/
theorem Rel.unguard (r : Rel g (b.with A xs) al s σ H) (hb : A ∉ b.al) (hB : b.Hb A = none) (n : A ∉ al) : Rel g b al s σ H ∧ H A = some (.lst xs) ∧ Away s.t σ A := by
  have nb : ∀ a, a ≠ A → (b.with A xs).Hb a = b.Hb a := fun a ha => if_neg ha
  have eA : (b.with A xs).Hb A = some (.lst xs) := if_pos rfl
  have ne : ∀ a, (b.with A xs).Hb a = none → a ≠ A := fun a e z => by subst z; rw [eA] at e; cases e
  refine ⟨⟨r.len, fun i x e => ?_, r.inj, r.cell, r.alen, r.nd, fun a o e m => ?_, fun a ha => ?_, r.apre⟩, r.base A _ eA hb, fun i x e o z => ?_⟩
  · obtain ⟨v, e1, q⟩ := r.sl i x e
    refine ⟨v, e1, ?_⟩
    cases x with
    | val d => exact q
    | own ds =>
      obtain ⟨a, vs, ev, h1, h2, h3, h4⟩ := q
      exact ⟨a, vs, ev, h1, h2, h3, by rw [← nb a (ne a h4)]; exact h4⟩
    | dct ds =>
      obtain ⟨a, vs, ev, h1, h2, h3, h4⟩ := q
      exact ⟨a, vs, ev, h1, h2, h3, by rw [← nb a (ne a h4)]; exact h4⟩
    | ldk ds =>
      obtain ⟨a, o, vs, e1, ev, h1, h2, h3, h4⟩ := q
      exact ⟨a, o, vs, e1, ev, h1, h2, h3, by rw [← nb a (ne a h4)]; exact h4⟩
    | exc c d => exact q
  · have : a ≠ A := fun z => by subst z; rw [hB] at e; cases e
    exact r.base a o (by rw [nb a this]; exact e) m
  · have : a ≠ A := fun z => n (z ▸ ha)
    rcases r.anew a ha with z | z
    · exact .inl z
    · exact .inr (by rw [← nb a this]; exact z)
  · obtain ⟨v, e1, q⟩ := r.sl i x e
    rw [z] at e1; cases e1
    cases x with
    | val d => cases o
    | ldk ds =>
      obtain ⟨a, o, vs, e1, ev, h1, h2, h3, h4⟩ := q
      cases ev
      exact ne A h4 rfl
    | exc c d => cases o
    | own ds =>
      obtain ⟨a, vs, ev, h1, h2, h3, h4⟩ := q
      cases ev
      exact ne A h4 rfl
    | dct ds =>
      obtain ⟨a, vs, ev, h1, h2, h3, h4⟩ := q
      cases ev
      exact ne A h4 rfl
/-- the guarded list grows -/
theorem Rel.grow (r : Rel g b al s σ H) {ys : List V} (h : H A = some (.lst xs)) (hB : b.Hb A = none) (n : A ∉ al) (aw : Away s.t σ A) : Rel g b al s σ (upd H A (.lst ys)) ∧ Stay H (upd H A (.lst ys)) ∧ Away s.t σ A := by
  have st : Stay H (upd H A (.lst ys)) :=
    ⟨fun c xs e => by rw [upd_ne (ne_of e h (by intro z; cases z))]; exact e, fun c x u e => by rw [upd_ne (ne_of e h (by intro z; cases z))]; exact e, fun c fs e => by rw [upd_ne (ne_of e h (by intro z; cases z))]; exact e⟩
  refine ⟨⟨r.len, fun i x e => ?_, r.inj, fun k ds e => ?_, r.alen, r.nd, fun a o e m => ?_, r.anew, r.apre⟩, st, aw⟩
  · obtain ⟨v, e1, q⟩ := r.sl i x e
    refine ⟨v, e1, ?_⟩
    cases x with
    | val d => exact q.stay st fun _ _ z => z
    | own ds =>
      obtain ⟨a, vs, ev, h1, h2, h3, h4⟩ := q
      exact ⟨a, vs, ev, by rw [upd_ne (fun z => by subst ev; subst z; exact aw i _ e rfl e1)]; exact h1, h2.stay st fun _ _ z => z, h3, h4⟩
    | dct ds =>
      obtain ⟨a, vs, ev, h1, h2, h3, h4⟩ := q
      exact ⟨a, vs, ev, by rw [upd_ne (fun z => by subst ev; subst z; exact aw i _ e rfl e1)]; exact h1, h2.stay st fun _ _ z => z, h3, h4⟩
    | ldk kvs =>
      obtain ⟨a, o, ws, e1, e2, e3, e4, e5, e6⟩ := q
      exact ⟨a, o, ws, e1, e2, st.frz _ _ _ e3, e4.stay st fun _ _ z => z, e5, e6⟩
    | exc c d =>
      obtain ⟨a', dd, w, e1, e2, e3, e4⟩ := q
      exact ⟨a', dd, w, e1, e2, st.xd _ _ e3, e4.stay st fun _ _ z => z⟩
  · obtain ⟨a, vs, e1, e2, e3⟩ := r.cell k ds e
    have : a ≠ A := fun z => by subst z; exact n (List.mem_of_getElem? e1)
    exact ⟨a, vs, e1, by rw [upd_ne this]; exact e2, e3.stay st fun _ _ z => z⟩
  · have : a ≠ A := fun z => by subst z; rw [hB] at e; cases e
    rw [upd_ne this]; exact r.base a o e m
end
theorem backT_get {t t0 : List (Option Sl)} : ∀ {ids : List Nat} {j : Nat} {x : Sl}, (backT t t0 ids)[j]? = some (some x) → (j ∉ ids ∧ t[j]? = some (some x)) ∨ (j ∈ ids ∧ t0[j]? = some (some x) ∧ ∃ d, x = .val d)
  | [], j, x, h => .inl ⟨by simp, h⟩
  | i :: ids, j, x, h => by
    unfold backT at h
    by_cases hj : i = j
    · subst hj
      by_cases hl : i < (backT t t0 ids).length
      · rw [List.getElem?_set_self hl] at h
        simp only [Option.some.injEq] at h
        split at h
        · rename_i d e
          cases h
          exact .inr ⟨by simp, e, d, rfl⟩
        · cases h
      · rw [List.getElem?_eq_none (by rw [List.length_set]; omega)] at h; cases h
    · rw [List.getElem?_set_ne hj] at h
      rcases backT_get h with ⟨h1, h2⟩ | ⟨h1, h2⟩
      · exact .inl ⟨by simp only [List.mem_cons, not_or]; exact ⟨fun z => hj z.symm, h1⟩, h2⟩
      · exact .inr ⟨List.mem_cons_of_mem _ h1, h2⟩
theorem backT_length (t t0 : List (Option Sl)) : ∀ ids : List Nat, (backT t t0 ids).length = t.length
  | [] => rfl
  | i :: ids => by unfold backT; rw [List.length_set, backT_length t t0 ids]
abbrev W0 : WX := fun _ _ _ _ => False
/-- a turn of a comprehension -/
def lcTurn (tg : MT) (fc : S → Res Bool) (fe : S → Res D) : D → S → Res (Option D) := fun d s1 => match bindT tg d { s1 with t := wipeT s1.t tg.ids } with
  | none => .bad
  | some s2 => (fc s2).bind fun b s3 => if b then (fe s3).bind fun e s4 => .ok (some e) s4 else .ok none s3
theorem pe_lc' {X : Cx} {g : G} {W : WX} {elt tge iter : Expr} {ifs : List Expr} {scope : Scope} {own : List (Str × Nat)} {pos : Pos} {tg : MT} {fi : S → Res (List D)} {fc : S → Res Bool} {fe : S → Res D}
    (hc : X.calm = true) (hN : X.N.Nodup) (hi : L2.PI X tge iter (rdI g W fi)) (ok : BlkOk X.N X.env.scope scope own) (ho : own.map (·.2) = tg.ids)
    (gt : TG) (hg : ∀ (s : Shared) (H : Hp) (C : Addr) (cl : List (Str × Addr)) (fp : List Addr), PG (X.blk s H scope (compEnvC scope cl C X.env) fp) tge gt)
    (hgt : ∀ (b : B) (al : List Addr) (s : S) (σ : L2.St) (H : Hp) (d : D) (x : V) (s2 : S) (Q : L2.St → Hp → Prop), Rel g b al s σ H → Rep g.K al H d x → bindT tg d s = some s2 →
      (∀ σ2, Rel g b al s2 σ2 H → SameOff tg.ids σ σ2 → Q σ2 H) → gt x σ H Q)
    (ht : ∀ (s : Shared) (H : Hp) (C : Addr) (cl : List (Str × Addr)) (fp : List Addr), PTs (X.blk s H scope (compEnvC scope cl C X.env) fp) ifs (rdT g W0 fc))
    (he : ∀ (s : Shared) (H : Hp) (C : Addr) (cl : List (Str × Addr)) (fp : List Addr), PE (X.blk s H scope (compEnvC scope cl C X.env) fp) elt (rdV g W0 fe))
    (hs : ∀ x, foldedSetIterable iter X.env x = pure x) :
    ∀ {te : TE}, te = tLc (rdI g W fi) gt (rdT g W0 fc) (rdV g W0 fe) (own.map (·.2)) → ∀ σ H Q, rdE g W (fun s => (fi s).bind fun items s => match lcGo (lcTurn tg fc fe) [] items s with
      | .ok ds s1 => .ok (.own ds) { s1 with t := backT s1.t s.t tg.ids }
      | _ => .bad) σ H Q → te σ H Q := by
  rintro te rfl σ H Q ⟨b, al, s, R, P⟩
  rw [ho]
  refine ⟨b, al, s, R, ?_⟩
  rw [postX_bind] at P
  refine P.mono fun items s1 p J H1 x1 R1 wk A hA => ?_
  -- the comprehension's own list at A
  cases q : lcGo (lcTurn tg fc fe) [] items s1 with
  | exc _ _ _ => rw [q] at p; exact p.elim
  | bad => rw [q] at p; exact p.elim
  | ok dsF sF =>
  rw [q] at p
  have nAl := R1.notAl hA
  have nB := R1.newBase hA
  have nBal : A ∉ b.al := fun h => by
    obtain ⟨k, hk, e⟩ := List.mem_iff_getElem.mp h
    exact nAl (List.mem_of_getElem? (R1.apre k A (by rw [List.getElem?_eq_getElem hk, e])))
  have st0 := stay_upd (H := H1) (o := .lst []) hA
  refine ⟨fun i m H' => m = items.length - i ∧ i ≤ items.length ∧ ∃ (sB : S) (acc : List D) (vs : List V), Rel g b al { sB with t := wipeT sB.t tg.ids } (L2.wipe σ tg.ids) H' ∧ H' A = some (.lst vs) ∧ Reps g.K al H' acc vs ∧ Away (wipeT sB.t tg.ids) (L2.wipe σ tg.ids) A ∧
      Stay H1 H' ∧ (∀ a ws, a ∉ al → H1 a = some (.lst ws) → H' a = some (.lst ws) ∨ ∃ o, H' a = some (.frz o (.lst ws))) ∧ lcGo (lcTurn tg fc fe) acc (items.drop i) sB = .ok dsF sF,
    ⟨items.length, by omega, Nat.zero_le _, s1, [], [], (R1.alloc hA).wipe tg.ids, upd_same, Reps.nil, fun i x e o z => ?_, st0, fun a ws _ e => .inl (by rw [upd_ne (ne_of_none e hA)]; exact e), by simpa using q⟩, ?_⟩
  · obtain ⟨e1, e2⟩ := wipeT_get e
    rw [wipe_off e2] at z
    exact R1.away hA i x e1 o z
  rintro i m H' ⟨rfl, hi', sB, acc, vs, RB, hA', rA, awB, stB, exB, go⟩
  obtain ⟨wk1, wk2⟩ := wk H' stB
  by_cases hlt : i < items.length
  · refine .inr ?_
    have hget : items[i]? = some items[i] := List.getElem?_eq_getElem hlt
    obtain ⟨g1, g2⟩ := wk1 i _ hget
    refine ⟨g1, fun H3 => ∃ (sC : S) (acc' : List D) (ws : List V), Rel g b al { sC with t := wipeT sC.t tg.ids } (L2.wipe σ tg.ids) H3 ∧ H3 A = some (.lst ws) ∧ Reps g.K al H3 acc' ws ∧ Away (wipeT sC.t tg.ids) (L2.wipe σ tg.ids) A ∧
      Stay H1 H3 ∧ (∀ a zs, a ∉ al → H1 a = some (.lst zs) → H3 a = some (.lst zs) ∨ ∃ o, H3 a = some (.frz o (.lst zs))) ∧ lcGo (lcTurn tg fc fe) acc' (items.drop (i + 1)) sC = .ok dsF sF, fun H3 n3 => ⟨items.length - (i + 1), by omega, rfl, hlt, n3⟩, fun x H2 y2 => ?_⟩
    obtain ⟨k2, r2⟩ := g2 x H2 y2
    have RB2 := RB.more k2
    have stB2 : Stay H' H2 := ⟨fun a xs e => k2 _ _ e, fun a o u e => k2 _ _ e, fun a fs e => k2 _ _ e⟩
    rw [show items.drop i = items[i] :: items.drop (i + 1) from List.drop_eq_getElem_cons hlt] at go
    unfold lcGo lcTurn at go
    cases qb : bindT tg items[i] { sB with t := wipeT sB.t tg.ids } with
    | none => rw [qb] at go; cases go
    | some s2 =>
    rw [qb] at go
    dsimp only at go
    have RG := RB2.guard (A := A) (xs := vs) (k2 _ _ hA') nBal nAl awB
    refine hgt (b.with A vs) al _ _ H2 _ x s2 _ RG r2 qb fun σ2 R2 so => ⟨by rw [wipe_same so, wipe_wipe], ?_⟩
    refine ⟨b.with A vs, al, s2, R2, ?_⟩
    cases qc : fc s2 with
    | exc _ _ _ => rw [qc] at go; cases go
    | bad => rw [qc] at go; cases go
    | ok c s3 =>
    rw [qc] at go
    intro H3 x3 R3
    have fin : ∀ {sC : S} {H4 : Hp}, Ext al H2 H4 → Rel g (b.with A vs) al sC σ2 H4 → (Rel g b al { sC with t := wipeT sC.t tg.ids } (L2.wipe σ tg.ids) H4 ∧ H4 A = some (.lst vs) ∧ Reps g.K al H4 acc vs ∧ Away (wipeT sC.t tg.ids) (L2.wipe σ tg.ids) A ∧ Stay H1 H4 ∧
        (∀ a zs, a ∉ al → H1 a = some (.lst zs) → H4 a = some (.lst zs) ∨ ∃ o, H4 a = some (.frz o (.lst zs)))) := fun {sC H4} x4 R4 => by
      obtain ⟨u1, u2, u3⟩ := R4.unguard nBal nB nAl
      have wq : L2.wipe σ2 tg.ids = L2.wipe σ tg.ids := by rw [wipe_same so, wipe_wipe]
      have u4 := u1.wipe tg.ids
      rw [wq] at u4
      refine ⟨u4, u2, (rA.stay (al' := al) (stB2.trans x4.st) fun _ _ z => z), fun j y e o z => ?_, (stB.trans stB2).trans x4.st, fun a zs na e => ?_⟩
      · obtain ⟨e1, e2⟩ := wipeT_get e
        rw [← wq, wipe_off e2] at z
        exact u3 j y e1 o z
      · rcases exB a zs na e with z | ⟨o, z⟩
        · exact x4.own a zs na (k2 _ _ z)
        · exact .inr ⟨o, x4.st.frz _ _ _ (k2 _ _ z)⟩
    cases c with
    | false =>
      rw [if_neg Bool.false_ne_true]
      obtain ⟨f1, f2, f3, f4, f5, f6⟩ := fin x3 R3
      exact ⟨s3, acc, vs, f1, f2, f3, f4, f5, f6, go⟩
    | true =>
      rw [if_pos rfl]
      simp only [Res.bind, if_true] at go
      refine ⟨b.with A vs, al, s3, R3, ?_⟩
      cases qe : fe s3 with
      | exc _ _ _ => rw [qe] at go; cases go
      | bad => rw [qe] at go; cases go
      | ok d s4 =>
      rw [qe] at go
      intro y H4 x4 R4 r4
      obtain ⟨f1, f2, f3, f4, f5, f6⟩ := fin (x3.trans x4) R4
      dsimp only at go
      split at go
      · rename_i hlen
        refine ⟨vs, f2, by rw [← f3.length, ← line_eq]; exact hlen, ?_⟩
        obtain ⟨k1, k2', k3⟩ := f1.grow (ys := vs ++ [y]) f2 nB nAl f4
        refine ⟨s4, acc ++ [d], vs ++ [y], k1, upd_same, ?_, k3, f5.trans k2', fun a zs na e => ?_, go⟩
        · exact (f3.append (Reps.cons r4 Reps.nil)).stay k2' fun _ _ z => z
        · have : a ≠ A := fun z => by subst z; rw [hA] at e; cases e
          rw [upd_ne this]
          exact f6 a zs na e
      · cases go
  · refine .inl ⟨wk2 i (by omega), ?_⟩
    have hi2 : i = items.length := by omega
    rw [hi2, List.drop_length] at go
    unfold lcGo at go
    cases go
    refine p (.ref A) H' (x1.trans ⟨stB, exB⟩) ?_ ⟨A, vs, rfl, hA', rA, nAl, nB, fun j y e o z => ?_⟩
    · refine ⟨by rw [backT_length]; have := RB.len; rw [wipeT_length, wipe_length] at this; exact this, fun j y e => ?_, fun j k y z a hjk ej ek oy oz e1 => ?_, RB.cell, RB.alen, RB.nd, RB.base, RB.anew, RB.apre⟩
      · rcases backT_get e with ⟨e1, e2⟩ | ⟨e1, e2, d, rfl⟩
        · have e3 : (wipeT sF.t tg.ids)[j]? = some (some y) := by
            rw [← e2]
            have : ∀ (ids : List Nat), j ∉ ids → (wipeT sF.t ids)[j]? = sF.t[j]? := by
              intro ids
              induction ids with
              | nil => intro _; rfl
              | cons i ids ih =>
                intro h
                simp only [List.mem_cons, not_or] at h
                unfold wipeT
                rw [List.getElem?_set_ne (fun z => h.1 z.symm)]
                exact ih h.2
            exact this _ e1
          obtain ⟨v, h1, h2⟩ := RB.sl j y e3
          rw [wipe_off e1] at h1
          exact ⟨v, h1, h2⟩
        · obtain ⟨v, h1, h2⟩ := R1.sl j _ e2
          exact ⟨v, h1, h2.stay stB fun _ _ z => z⟩
      · rcases backT_get ej with ⟨e2, e3⟩ | ⟨_, _, d, rfl⟩
        · rcases backT_get ek with ⟨e4, e5⟩ | ⟨_, _, d, rfl⟩
          · have w : ∀ (ids : List Nat) (j : Nat), j ∉ ids → (wipeT sF.t ids)[j]? = sF.t[j]? := by
              intro ids j
              induction ids with
              | nil => intro _; rfl
              | cons i ids ih =>
                intro h
                simp only [List.mem_cons, not_or] at h
                unfold wipeT
                rw [List.getElem?_set_ne (fun z => h.1 z.symm)]
                exact ih h.2
            have := RB.inj j k y z a hjk (by rw [w _ _ e2]; exact e3) (by rw [w _ _ e4]; exact e5) oy oz (by rw [wipe_off e2]; exact e1)
            rw [wipe_off e4] at this
            exact this
          · cases oz
        · cases oy
    · rcases backT_get e with ⟨e2, e3⟩ | ⟨_, _, d, rfl⟩
      · have w : ∀ (ids : List Nat), j ∉ ids → (wipeT sF.t ids)[j]? = sF.t[j]? := by
          intro ids
          induction ids with
          | nil => intro _; rfl
          | cons i ids ih =>
            intro h
            simp only [List.mem_cons, not_or] at h
            unfold wipeT
            rw [List.getElem?_set_ne (fun z => h.1 z.symm)]
            exact ih h.2
        exact awB j y (by rw [w _ e2]; exact e3) o (by rw [wipe_off e2]; exact z)
      · cases o
end PI

namespace PI
open PySem PySem.Spec PyProof.Rows L2

/-! ### comprehensions with two clauses -/
theorem wipeT_off {t : List (Option Sl)} : ∀ {ids : List Nat} {j : Nat}, j ∉ ids → (wipeT t ids)[j]? = t[j]?
  | [], _, _ => rfl
  | i :: ids, j, h => by
    simp only [List.mem_cons, not_or] at h
    unfold wipeT
    rw [List.getElem?_set_ne (fun z => h.1 z.symm)]
    exact wipeT_off h.2
theorem wipeT_on {t : List (Option Sl)} : ∀ {ids : List Nat} {j : Nat}, j ∈ ids → j < t.length → (wipeT t ids)[j]? = some none
  | [], j, h, _ => by simp at h
  | i :: ids, j, h, hl => by
    unfold wipeT
    by_cases hj : i = j
    · subst hj
      rw [List.getElem?_set_self (by rw [wipeT_length]; exact hl)]
    · rw [List.getElem?_set_ne hj]
      rcases List.mem_cons.mp h with z | z
      · exact absurd z.symm hj
      · exact wipeT_on z hl
theorem wipeT_sub {t : List (Option Sl)} {is js : List Nat} (h : ∀ i ∈ js, i ∈ is) : wipeT (wipeT t js) is = wipeT t is := by
  apply List.ext_getElem?
  intro j
  by_cases hj : j ∈ is
  · by_cases hl : j < t.length
    · rw [wipeT_on hj hl, wipeT_on hj (by rw [wipeT_length]; exact hl)]
    · rw [List.getElem?_eq_none (by rw [wipeT_length, wipeT_length]; omega), List.getElem?_eq_none (by rw [wipeT_length]; omega)]
  · rw [wipeT_off hj, wipeT_off hj, wipeT_off fun z => hj (h j z)]
theorem wipe_sub {σ : L2.St} {is js : List Nat} (h : ∀ i ∈ js, i ∈ is) : L2.wipe (L2.wipe σ js) is = L2.wipe σ is := wipe_same ⟨wipe_length _ _, fun j hj => wipe_off fun z => hj (h j z)⟩
/-- a turn of the first clause -/
def lcTurn2 (ids : List Nat) (tg : MT) (fc : S → Res Bool) (fi : S → Res (List D)) : D → S → Res (Option (List D)) := fun d s1 => match bindT tg d { s1 with t := wipeT s1.t ids } with
  | none => .bad
  | some s2 => (fc s2).bind fun b s3 => if b then (fi s3).bind fun items s4 => .ok (some items) s4 else .ok none s3
theorem pe_lc2' {g : G} {W : WX} {own : List (Str × Nat)} {tg tg1 : MT} {fi fi1 : S → Res (List D)} {fc fc1 : S → Res Bool} {fe : S → Res D}
    (ho : own.map (·.2) = tg.ids ++ tg1.ids) (gt gt1 : TG)
    (hgt : ∀ (b : B) (al : List Addr) (s : S) (σ : L2.St) (H : Hp) (d : D) (x : V) (s2 : S) (Q : L2.St → Hp → Prop), Rel g b al s σ H → Rep g.K al H d x → bindT tg d s = some s2 →
      (∀ σ2, Rel g b al s2 σ2 H → SameOff tg.ids σ σ2 → Q σ2 H) → gt x σ H Q)
    (hgt1 : ∀ (b : B) (al : List Addr) (s : S) (σ : L2.St) (H : Hp) (d : D) (x : V) (s2 : S) (Q : L2.St → Hp → Prop), Rel g b al s σ H → Rep g.K al H d x → bindT tg1 d s = some s2 →
      (∀ σ2, Rel g b al s2 σ2 H → SameOff tg1.ids σ σ2 → Q σ2 H) → gt1 x σ H Q) :
    ∀ {te : TE}, te = tLc2 (rdI g W fi) gt (rdT g W0 fc) (rdI g W0 fi1) gt1 (rdT g W0 fc1) (rdV g W0 fe) (own.map (·.2)) tg1.ids → ∀ σ H Q, rdE g W (fun s => (fi s).bind fun items s => match lcGo2 (lcTurn2 (tg.ids ++ tg1.ids) tg fc fi1) (lcTurn tg1 fc1 fe) [] items s with
      | .ok ds s1 => .ok (.own ds) { s1 with t := backT s1.t s.t (tg.ids ++ tg1.ids) }
      | _ => .bad) σ H Q → te σ H Q := by
  rintro te rfl σ H Q ⟨b, al, s, R, P⟩
  rw [ho]
  have sub1 : ∀ i ∈ tg1.ids, i ∈ tg.ids ++ tg1.ids := fun i h => List.mem_append_right _ h
  have sub0 : ∀ i ∈ tg.ids, i ∈ tg.ids ++ tg1.ids := fun i h => List.mem_append_left _ h
  obtain ⟨ids, hids⟩ : ∃ ids, tg.ids ++ tg1.ids = ids := ⟨_, rfl⟩
  rw [hids] at P sub1 sub0 ⊢
  refine ⟨b, al, s, R, ?_⟩
  rw [postX_bind] at P
  refine P.mono fun items s1 p J H1 x1 R1 wk A hA => ?_
  -- the comprehension's own list at A
  cases q : lcGo2 (lcTurn2 ids tg fc fi1) (lcTurn tg1 fc1 fe) [] items s1 with
  | exc _ _ _ => rw [q] at p; exact p.elim
  | bad => rw [q] at p; exact p.elim
  | ok dsF sF =>
  rw [q] at p
  have nAl := R1.notAl hA
  have nB := R1.newBase hA
  have nBal : A ∉ b.al := fun h => by
    obtain ⟨k, hk, e⟩ := List.mem_iff_getElem.mp h
    exact nAl (List.mem_of_getElem? (R1.apre k A (by rw [List.getElem?_eq_getElem hk, e])))
  have st0 := stay_upd (H := H1) (o := .lst []) hA
  refine ⟨fun i m H' => m = items.length - i ∧ i ≤ items.length ∧ ∃ (sB : S) (acc : List D) (vs : List V), Rel g b al { sB with t := wipeT sB.t ids } (L2.wipe σ ids) H' ∧ H' A = some (.lst vs) ∧ Reps g.K al H' acc vs ∧ Away (wipeT sB.t ids) (L2.wipe σ ids) A ∧
      Stay H1 H' ∧ (∀ a ws, a ∉ al → H1 a = some (.lst ws) → H' a = some (.lst ws) ∨ ∃ o, H' a = some (.frz o (.lst ws))) ∧ lcGo2 (lcTurn2 ids tg fc fi1) (lcTurn tg1 fc1 fe) acc (items.drop i) sB = .ok dsF sF,
    ⟨items.length, by omega, Nat.zero_le _, s1, [], [], (R1.alloc hA).wipe ids, upd_same, Reps.nil, fun i x e o z => ?_, st0, fun a ws _ e => .inl (by rw [upd_ne (ne_of_none e hA)]; exact e), by simpa using q⟩, ?_⟩
  · obtain ⟨e1, e2⟩ := wipeT_get e
    rw [wipe_off e2] at z
    exact R1.away hA i x e1 o z
  rintro i m H' ⟨rfl, hi', sB, acc, vs, RB, hA', rA, awB, stB, exB, go⟩
  obtain ⟨wk1, wk2⟩ := wk H' stB
  by_cases hlt : i < items.length
  · refine .inr ?_
    have hget : items[i]? = some items[i] := List.getElem?_eq_getElem hlt
    obtain ⟨g1, g2⟩ := wk1 i _ hget
    refine ⟨g1, fun H3 => ∃ (sC : S) (acc' : List D) (ws : List V), Rel g b al { sC with t := wipeT sC.t ids } (L2.wipe σ ids) H3 ∧ H3 A = some (.lst ws) ∧ Reps g.K al H3 acc' ws ∧ Away (wipeT sC.t ids) (L2.wipe σ ids) A ∧
      Stay H1 H3 ∧ (∀ a zs, a ∉ al → H1 a = some (.lst zs) → H3 a = some (.lst zs) ∨ ∃ o, H3 a = some (.frz o (.lst zs))) ∧ lcGo2 (lcTurn2 ids tg fc fi1) (lcTurn tg1 fc1 fe) acc' (items.drop (i + 1)) sC = .ok dsF sF, fun H3 n3 => ⟨items.length - (i + 1), by omega, rfl, hlt, n3⟩, fun x H2 y2 => ?_⟩
    obtain ⟨k2, r2⟩ := g2 x H2 y2
    have RB2 := RB.more k2
    have stB2 : Stay H' H2 := ⟨fun a xs e => k2 _ _ e, fun a o u e => k2 _ _ e, fun a fs e => k2 _ _ e⟩
    rw [show items.drop i = items[i] :: items.drop (i + 1) from List.drop_eq_getElem_cons hlt] at go
    unfold lcGo2 lcTurn2 at go
    cases qb : bindT tg items[i] { sB with t := wipeT sB.t ids } with
    | none => rw [qb] at go; cases go
    | some s2 =>
    rw [qb] at go
    dsimp only at go
    have RG := RB2.guard (A := A) (xs := vs) (k2 _ _ hA') nBal nAl awB
    refine hgt (b.with A vs) al _ _ H2 _ x s2 _ RG r2 qb fun σ2 R2 so => ?_
    have so : SameOff ids (L2.wipe σ ids) σ2 := ⟨so.1, fun j hj => so.2 j fun z => hj (sub0 j z)⟩
    have wq : L2.wipe σ2 ids = L2.wipe σ ids := by rw [wipe_same so, wipe_wipe]
    refine ⟨wq, ?_⟩
    refine ⟨b.with A vs, al, s2, R2, ?_⟩
    cases qc : fc s2 with
    | exc _ _ _ => rw [qc] at go; cases go
    | bad => rw [qc] at go; cases go
    | ok c s3 =>
    rw [qc] at go
    intro H3 x3 R3
    cases c with
    | false =>
      rw [if_neg Bool.false_ne_true]
      obtain ⟨u1, u2, u3⟩ := R3.unguard nBal nB nAl
      have u4 := u1.wipe ids
      rw [wq] at u4
      refine ⟨s3, acc, vs, u4, u2, (rA.stay (al' := al) (stB2.trans x3.st) fun _ _ z => z), fun j y e o z => ?_, (stB.trans stB2).trans x3.st, fun a zs na e => ?_, go⟩
      · obtain ⟨e1, e2⟩ := wipeT_get e
        rw [← wq, wipe_off e2] at z
        exact u3 j y e1 o z
      · rcases exB a zs na e with z | ⟨o, z⟩
        · exact x3.own a zs na (k2 _ _ z)
        · exact .inr ⟨o, x3.st.frz _ _ _ (k2 _ _ z)⟩
    | true =>
      rw [if_pos rfl]
      simp only [Res.bind, if_true] at go
      refine ⟨b.with A vs, al, s3, R3, ?_⟩
      cases qi : fi1 s3 with
      | exc _ _ _ => rw [qi] at go; cases go
      | bad => rw [qi] at go; cases go
      | ok items1 s4 =>
      rw [qi] at go
      dsimp only at go
      intro J1 H4 x4 R4 wkB
      cases ql : lcGo (lcTurn tg1 fc1 fe) acc items1 s4 with
      | exc _ _ _ => rw [ql] at go; cases go
      | bad => rw [ql] at go; cases go
      | ok accF sE =>
      rw [ql] at go
      dsimp only at go
      obtain ⟨u1, u2, u3⟩ := R4.unguard nBal nB nAl
      have st14 : Stay H1 H4 := ((stB.trans stB2).trans x3.st).trans x4.st
      have ex14 : ∀ a zs, a ∉ al → H1 a = some (.lst zs) → H4 a = some (.lst zs) ∨ ∃ o, H4 a = some (.frz o (.lst zs)) := fun a zs na e => by
        rcases exB a zs na e with z | ⟨o, z⟩
        · exact (x3.trans x4).own a zs na (k2 _ _ z)
        · exact .inr ⟨o, (x3.trans x4).st.frz _ _ _ (k2 _ _ z)⟩
      refine ⟨fun j m H' => m = items1.length - j ∧ j ≤ items1.length ∧ ∃ (sI : S) (acc' : List D) (vs' : List V), Rel g b al { sI with t := wipeT sI.t tg1.ids } (L2.wipe σ2 tg1.ids) H' ∧ H' A = some (.lst vs') ∧ Reps g.K al H' acc' vs' ∧ Away (wipeT sI.t tg1.ids) (L2.wipe σ2 tg1.ids) A ∧
          Stay H4 H' ∧ (∀ a ws, a ∉ al → H1 a = some (.lst ws) → H' a = some (.lst ws) ∨ ∃ o, H' a = some (.frz o (.lst ws))) ∧ lcGo (lcTurn tg1 fc1 fe) acc' (items1.drop j) sI = .ok accF sE,
        ⟨items1.length, by omega, Nat.zero_le _, s4, acc, vs, u1.wipe tg1.ids, u2, (rA.stay (al' := al) ((stB2.trans x3.st).trans x4.st) fun _ _ z => z), fun j y e o z => ?_, Stay.refl H4, ex14, by simpa using ql⟩, ?_⟩
      · obtain ⟨e1, e2⟩ := wipeT_get e
        rw [wipe_off e2] at z
        exact u3 j y e1 o z
      rintro j m H5 ⟨rfl, hj', sI, acc', vs', RI, hA5, rA5, aw5, st5, ex5, go1⟩
      obtain ⟨wk3, wk4⟩ := wkB H5 st5
      by_cases hlt1 : j < items1.length
      · refine .inr ?_
        have hget1 : items1[j]? = some items1[j] := List.getElem?_eq_getElem hlt1
        obtain ⟨g3, g4⟩ := wk3 j _ hget1
        refine ⟨g3, fun H6 => ∃ (sC : S) (acc2 : List D) (ws : List V), Rel g b al { sC with t := wipeT sC.t tg1.ids } (L2.wipe σ2 tg1.ids) H6 ∧ H6 A = some (.lst ws) ∧ Reps g.K al H6 acc2 ws ∧ Away (wipeT sC.t tg1.ids) (L2.wipe σ2 tg1.ids) A ∧
          Stay H4 H6 ∧ (∀ a zs, a ∉ al → H1 a = some (.lst zs) → H6 a = some (.lst zs) ∨ ∃ o, H6 a = some (.frz o (.lst zs))) ∧ lcGo (lcTurn tg1 fc1 fe) acc2 (items1.drop (j + 1)) sC = .ok accF sE, fun H6 n6 => ⟨items1.length - (j + 1), by omega, rfl, hlt1, n6⟩, fun x5 H6 y6 => ?_⟩
        obtain ⟨k6, r6⟩ := g4 x5 H6 y6
        have RI2 := RI.more k6
        have st56 : Stay H5 H6 := ⟨fun a xs e => k6 _ _ e, fun a o u e => k6 _ _ e, fun a fs e => k6 _ _ e⟩
        rw [show items1.drop j = items1[j] :: items1.drop (j + 1) from List.drop_eq_getElem_cons hlt1] at go1
        unfold lcGo lcTurn at go1
        cases qb1 : bindT tg1 items1[j] { sI with t := wipeT sI.t tg1.ids } with
        | none => rw [qb1] at go1; cases go1
        | some s5 =>
        rw [qb1] at go1
        dsimp only at go1
        have RG1 := RI2.guard (A := A) (xs := vs') (k6 _ _ hA5) nBal nAl aw5
        refine hgt1 (b.with A vs') al _ _ H6 _ x5 s5 _ RG1 r6 qb1 fun σ3 R5 so1 => ⟨by rw [wipe_same so1, wipe_wipe], ?_⟩
        refine ⟨b.with A vs', al, s5, R5, ?_⟩
        cases qc1 : fc1 s5 with
        | exc _ _ _ => rw [qc1] at go1; cases go1
        | bad => rw [qc1] at go1; cases go1
        | ok c1 s6 =>
        rw [qc1] at go1
        intro H7 x7 R7
        have fin : ∀ {sC : S} {H8 : Hp}, Ext al H6 H8 → Rel g (b.with A vs') al sC σ3 H8 → (Rel g b al { sC with t := wipeT sC.t tg1.ids } (L2.wipe σ2 tg1.ids) H8 ∧ H8 A = some (.lst vs') ∧ Reps g.K al H8 acc' vs' ∧ Away (wipeT sC.t tg1.ids) (L2.wipe σ2 tg1.ids) A ∧ Stay H4 H8 ∧
            (∀ a zs, a ∉ al → H1 a = some (.lst zs) → H8 a = some (.lst zs) ∨ ∃ o, H8 a = some (.frz o (.lst zs)))) := fun {sC H8} x8 R8 => by
          obtain ⟨u1, u2, u3⟩ := R8.unguard nBal nB nAl
          have wq1 : L2.wipe σ3 tg1.ids = L2.wipe σ2 tg1.ids := by rw [wipe_same so1, wipe_wipe]
          have u4 := u1.wipe tg1.ids
          rw [wq1] at u4
          refine ⟨u4, u2, (rA5.stay (al' := al) (st56.trans x8.st) fun _ _ z => z), fun j y e o z => ?_, (st5.trans st56).trans x8.st, fun a zs na e => ?_⟩
          · obtain ⟨e1, e2⟩ := wipeT_get e
            rw [← wq1, wipe_off e2] at z
            exact u3 j y e1 o z
          · rcases ex5 a zs na e with z | ⟨o, z⟩
            · exact x8.own a zs na (k6 _ _ z)
            · exact .inr ⟨o, x8.st.frz _ _ _ (k6 _ _ z)⟩
        cases c1 with
        | false =>
          rw [if_neg Bool.false_ne_true]
          obtain ⟨f1, f2, f3, f4, f5, f6⟩ := fin x7 R7
          exact ⟨s6, acc', vs', f1, f2, f3, f4, f5, f6, go1⟩
        | true =>
          rw [if_pos rfl]
          simp only [Res.bind, if_true] at go1
          refine ⟨b.with A vs', al, s6, R7, ?_⟩
          cases qe : fe s6 with
          | exc _ _ _ => rw [qe] at go1; cases go1
          | bad => rw [qe] at go1; cases go1
          | ok d s7 =>
          rw [qe] at go1
          intro y H8 x8 R8 r8
          obtain ⟨f1, f2, f3, f4, f5, f6⟩ := fin (x7.trans x8) R8
          dsimp only at go1
          split at go1
          · rename_i hlen
            refine ⟨vs', f2, by rw [← f3.length, ← line_eq]; exact hlen, ?_⟩
            obtain ⟨k1, k2', k3⟩ := f1.grow (ys := vs' ++ [y]) f2 nB nAl f4
            refine ⟨s7, acc' ++ [d], vs' ++ [y], k1, upd_same, ?_, k3, f5.trans k2', fun a zs na e => ?_, go1⟩
            · exact (f3.append (Reps.cons r8 Reps.nil)).stay k2' fun _ _ z => z
            · have : a ≠ A := fun z => by subst z; rw [hA] at e; cases e
              rw [upd_ne this]
              exact f6 a zs na e
          · cases go1
      · refine .inl ⟨wk4 j (by omega), ?_⟩
        have hj2 : j = items1.length := by omega
        rw [hj2, List.drop_length] at go1
        unfold lcGo at go1
        cases go1
        have u4 := RI.wipe ids
        rw [wipe_sub sub1, wq] at u4
        dsimp only at u4
        rw [wipeT_sub sub1] at u4
        refine ⟨_, _, vs', u4, hA5, rA5, fun j y e o z => ?_, st14.trans st5, ex5, go⟩
        obtain ⟨e1, e2⟩ := wipeT_get e
        have e3 : j ∉ tg1.ids := fun w => e2 (sub1 j w)
        rw [← wq, wipe_off e2] at z
        exact aw5 j y (by rw [wipeT_off e3]; exact e1) o (by rw [wipe_off e3]; exact z)
  · refine .inl ⟨wk2 i (by omega), ?_⟩
    have hi2 : i = items.length := by omega
    rw [hi2, List.drop_length] at go
    unfold lcGo2 at go
    cases go
    refine p (.ref A) H' (x1.trans ⟨stB, exB⟩) ?_ ⟨A, vs, rfl, hA', rA, nAl, nB, fun j y e o z => ?_⟩
    · refine ⟨by rw [backT_length]; have := RB.len; rw [wipeT_length, wipe_length] at this; exact this, fun j y e => ?_, fun j k y z a hjk ej ek oy oz e1 => ?_, RB.cell, RB.alen, RB.nd, RB.base, RB.anew, RB.apre⟩
      · rcases backT_get e with ⟨e1, e2⟩ | ⟨e1, e2, d, rfl⟩
        · obtain ⟨v, h1, h2⟩ := RB.sl j y (by rw [← e2]; exact wipeT_off e1)
          rw [wipe_off e1] at h1
          exact ⟨v, h1, h2⟩
        · obtain ⟨v, h1, h2⟩ := R1.sl j _ e2
          exact ⟨v, h1, h2.stay stB fun _ _ z => z⟩
      · rcases backT_get ej with ⟨e2, e3⟩ | ⟨_, _, d, rfl⟩
        · rcases backT_get ek with ⟨e4, e5⟩ | ⟨_, _, d, rfl⟩
          · have := RB.inj j k y z a hjk (by show (wipeT sF.t ids)[j]? = _; rw [wipeT_off e2]; exact e3) (by show (wipeT sF.t ids)[k]? = _; rw [wipeT_off e4]; exact e5) oy oz (by rw [wipe_off e2]; exact e1)
            rw [wipe_off e4] at this
            exact this
          · cases oz
        · cases oy
    · rcases backT_get e with ⟨e2, e3⟩ | ⟨_, _, d, rfl⟩
      · exact awB j y (by rw [wipeT_off e2]; exact e3) o (by rw [wipe_off e2]; exact z)
      · cases o
end PI

namespace PI
open PySem PySem.Spec PyProof.Rows L2 HT
section
variable {prog : Program} {w : World} {A : Around} {E : Value → Shared → Prop} {s : Shared}
theorem places_rev (n : Nat) : Builtin.Slice.slicePlaces ((n : Int) - 1) (-1) (-1) = n := by
  unfold Builtin.Slice.slicePlaces
  rw [if_neg (by decide)]
  by_cases z : n = 0
  · subst z; rfl
  · rw [if_pos (by omega)]
    have : ((n : Int) - 1 - -1 - 1) / (- -1) = (n : Int) - 1 := by
      rw [show (- -1 : Int) = 1 from rfl, Int.ediv_one]; omega
    rw [this]; omega
theorem sliceApplied_rev {sl : Addr} {vs : Value} {n : Nat} {Q : Int × Int × Nat → Shared → Prop} (hs : s.heap.IsSliceOf sl .none .none vs) (ps : IsPart vs (some (-1)))
    (h : Q ((n : Int) - 1, -1, n) s) : wpAny (model prog w) A (Builtin.Slice.sliceApplied (.ref sl) (pure (n : Int))) Q E s := by
  obtain ⟨os, hos, hcs, hds⟩ := id hs
  unfold Builtin.Slice.sliceApplied Builtin.Slice.sliceFields
  refine wpAny_bind (wpAny_bind (wpAny_field hos hds (x := .none) rfl (wpAny_bind (wpAny_field hos hds (x := .none) rfl (wpAny_bind (wpAny_field hos hds (x := vs) rfl (wpAny_pure ?_)))))))
  refine wpAny_bind (slicePart_ ps ?_)
  show wpAny _ _ (if ((-1 : Int) == 0) = true then _ else _) _ _ s
  rw [if_neg (by decide)]
  refine wpAny_bind (slicePart_none (wpAny_bind (slicePart_none (wpAny_bind (wpAny_pure ?_)))))
  show wpAny _ _ (match Builtin.Slice.sliceAdjust none none (-1) (n : Int) with | (lo, hi) => pure (lo, (-1 : Int), Builtin.Slice.slicePlaces lo hi (-1))) _ _ s
  show wpAny _ _ (pure ((n : Int) - 1, (-1 : Int), Builtin.Slice.slicePlaces ((n : Int) - 1) (-1) (-1))) _ _ s
  rw [places_rev]
  exact wpAny_pure h
theorem pick_rev (xs : Array Value) : ((List.range xs.size).filterMap fun (m : Nat) => xs[((xs.size : Int) - 1 + (m : Int) * -1).toNat]?).toArray = xs.toList.reverse.toArray := by
  congr 1
  apply List.ext_getElem?
  intro i
  have e : ∀ l : List Nat, (∀ m ∈ l, m < xs.size) → l.filterMap (fun (m : Nat) => xs[((xs.size : Int) - 1 + (m : Int) * -1).toNat]?) = l.map fun m => xs.toList.reverse[m]?.getD .none := by
    intro l
    induction l with
    | nil => intro _; rfl
    | cons a l ih =>
      intro h
      have ha := h a List.mem_cons_self
      have e1 : ((xs.size : Int) - 1 + (a : Int) * -1).toNat = xs.size - 1 - a := by omega
      have e2 : xs[xs.size - 1 - a]? = some (xs[xs.size - 1 - a]'(by omega)) := by rw [Array.getElem?_eq_getElem]
      have e3 : xs.toList.reverse[a]? = some (xs[xs.size - 1 - a]'(by omega)) := by
        rw [List.getElem?_reverse (by simpa using ha)]
        simp
      rw [List.filterMap_cons_some (b := xs[xs.size - 1 - a]'(by omega)) (by rw [e1]; exact e2), List.map_cons, ih fun m hm => h m (List.mem_cons_of_mem _ hm), e3]
      rfl
  rw [e _ fun m hm => List.mem_range.mp hm, List.getElem?_map]
  by_cases h : i < xs.size
  · rw [List.getElem?_range h]
    have : i < xs.toList.reverse.length := by simpa using h
    rw [List.getElem?_eq_getElem this]
    simp [List.getElem?_eq_getElem this]
  · rw [List.getElem?_eq_none (by simpa using h), List.getElem?_eq_none (by simpa using h)]
    rfl
theorem getItem_tuple_rev {t sl : Addr} {items : Array Value} {vs : Value} {Q : Value → Shared → Prop} (ht : IsTup s.heap t items) (hs : s.heap.IsSliceOf sl .none .none vs) (ps : IsPart vs (some (-1)))
    (h : Q (.ref s.heap.objs.size) { s with heap := s.heap.push { cls := .type "tuple", data := .seq items.toList.reverse.toArray } })
    (hsz : items.size ≤ sizeLine) : wpAny (model prog w) A (getItem (.ref t) (.ref sl)) Q E s := by
  have htake : sizeOk (.seq items.toList.reverse.toArray) := by
    show items.toList.reverse.toArray.size ≤ sizeLine
    rw [List.size_toArray, List.length_reverse, Array.length_toList]
    exact hsz
  obtain ⟨os, hos, hcs, hds⟩ := id hs
  have hTs : s.TypeIs (.ref sl) "slice" := ⟨os, hos, hcs⟩
  unfold getItem
  try with_reducible refine wpAny_holding ?_
  first | refine wpAny_bind (wpAny_pure ?_) | skip
  refine wpAny_bind (wpAny_sequenceKey ht.typeIs (by decide) ?_)
  refine wpAny_bind (wpAny_callSpecial?_slot (name := Str.ofString "__getitem__") ht.typeIs PyProof.Rows.slot_tuple_getitem
    (wpAny_call_entry PyProof.Rows.slot_tuple_getitem ht.typeIs entry_tuple_getitem ?_ (args_tuple_getitem _ _)))
  show wpAny _ _ (Builtin.Tuple.tupleItemsOf (.ref t) >>= _) _ _ s
  refine wpAny_bind (tupleItemsOf_ ht ?_)
  refine wpAny_bind (wpAny_typeOf hTs ?_)
  rw [if_pos (by decide)]
  refine wpAny_bind (sliceApplied_rev hs ps ?_)
  have hno : ¬ ((((items.size : Int) - 1) == 0 && (-1 : Int) == 1 && items.size == items.size) = true) := by simp
  show wpAny _ _ (if (((items.size : Int) - 1) == 0 && (-1 : Int) == 1 && items.size == items.size) = true then _ else _) _ _ s
  rw [if_neg hno, pick_rev]
  first
    | exact wpAny_bind (m := Builtin.Tuple.tupleExact _) (wpAny_newObj_type (wpAny_pure ⟨_, rfl, wpAny_pure h⟩) htake)
    | exact wpAny_bind (m := Builtin.Tuple.tupleExact _) (wpAny_newObj_type (wpAny_bind (wpAny_pure (wpAny_pure ⟨_, rfl, wpAny_pure h⟩))) htake)
    | exact wpAny_bind (wpAny_bind (m := Builtin.Tuple.tupleExact _) (wpAny_newObj_type (wpAny_pure (wpAny_pure ⟨_, rfl, wpAny_pure h⟩)) htake))
    | exact wpAny_bind (wpAny_bind (m := Builtin.Tuple.tupleExact _) (wpAny_newObj_type (wpAny_pure ⟨_, rfl, wpAny_pure h⟩) htake))
end
end PI
namespace PI
open PySem PySem.Spec PyProof.Rows L2 HT
section
variable {X : Cx} {g : G} {W : WX}
def tRev (K : PySem.W.Frag) (te : TE) : TE := fun σ H Q => te σ H fun x H1 => (∃ a xs, x = V.ref a ∧ SqL K H1 a xs ∧ ∀ p, H1 p = none → Q (.ref p) (upd H1 p (.lst xs.reverse))) ∨
  (∃ a xs, x = V.ref a ∧ SqT K H1 a xs ∧ ∀ p, H1 p = none → Q (.ref p) (upd H1 p (.tup xs.reverse)))
theorem pe_rev0 {e : Expr} {te : TE} {k : Nat} {p1 p2 p3 pos : Pos} (he : PE X e te) : PE X (.Subscript e (.Slice none none (some (.UnaryOp .USub (.Constant (.int 1) k p1) p2)) p3) pos) (tRev X.K te) := by
  refine ⟨fun pins s σ H Q I h => ?_⟩
  refine Subscript_ (thn (he.run pins s σ H _ I h) fun v s1 ⟨x, H1, I1, r1, q1⟩ => ?_)
  obtain ⟨a, xs, ex⟩ : ∃ a xs, x = V.ref a ∧ ((SqL X.K H1 a xs ∧ ∀ p, H1 p = none → Q (.ref p) (upd H1 p (.lst xs.reverse))) ∨ (SqT X.K H1 a xs ∧ ∀ p, H1 p = none → Q (.ref p) (upd H1 p (.tup xs.reverse)))) := by
    rcases q1 with ⟨a, xs, e, h1, h2⟩ | ⟨a, xs, e, h1, h2⟩
    · exact ⟨a, xs, e, .inl ⟨h1, h2⟩⟩
    · exact ⟨a, xs, e, .inr ⟨h1, h2⟩⟩
  obtain ⟨ex, q⟩ := ex
  subst ex
  cases r1
  have hst : PO X (some (.UnaryOp .USub (.Constant (.int 1) k p1) p2)) (tPart (tUn (rU fun i => .int (-i)) (tC (.int 1)))) := po_some (pe_un un_neg pe_int)
  refine wpAny_Slice (thn (po_none.run pins s1 σ H1 (fun o H2 => o = none ∧ H2 = H1) I1 ⟨rfl, rfl⟩) fun vl s2 ⟨l, H2, I2, pl, el, e2⟩ => ?_)
  subst el e2
  refine thn (po_none.run pins s2 σ H2 (fun o H3 => o = none ∧ H3 = H2) I2 ⟨rfl, rfl⟩) fun vu s3 ⟨u, H3, I3, pu, eu, e3⟩ => ?_
  subst eu e3
  refine thn (hst.run pins s3 σ H3 (fun o H4 => o = some (-1) ∧ H4 = H3) I3 ⟨1, rfl, -1, rfl, rfl, rfl⟩) fun vs s4 ⟨o, H4, I4, ps, eo, e4⟩ => ?_
  subst eo e4
  have I5 : Inv X pins σ H4 { s4 with heap := s4.heap.push { cls := .type "slice", data := .fields #[vl, vu, vs] } } := I4.kept (t' := s4.toks) fun b ob q => Heap.get?_push_of_some _ q
  show wpAny (model X.prog X.w) X.A (subscriptTail e (.Slice none none (some (.UnaryOp .USub (.Constant (.int 1) k p1) p2)) p3) (.ref a) (.ref s4.heap.objs.size)) (EP X pins σ Q) X.xe { s4 with heap := s4.heap.push { cls := .type "slice", data := .fields #[vl, vu, vs] } }
  rcases q with ⟨hx, q⟩ | ⟨hx, q⟩
  · obtain ⟨its, r, ht, hz⟩ := I5.list hx
    have hlen := r.length
    refine tail_any (ops := [.ref a, .ref s4.heap.objs.size]) ht.isList.typeIs (PySem.slot_list_getitem.lookup) ?_ (by with_unfolding_all rfl)
    refine wpAny_getItem_list_slice ht.isList (Heap.IsSliceOf.new _ vl vu vs) pl pu ps (by decide) ?_ (by rw [List.size_toArray]; omega)
    rw [PySem.W.krv_pick]
    refine ⟨.ref _, _, I5.laid (t' := s4.toks) (o := .lst xs.reverse) (fun b ob q => Heap.get?_push_of_some _ q) (Nat.le_refl _) ?_, rfl, q _ (I5.hok.fresh (Nat.le_refl _))⟩
    exact ⟨by rw [List.length_reverse]; exact hz, _, 0, r.reverse, Heap.get?_push_size _ rfl⟩
  · obtain ⟨its, r, ht, hz⟩ := I5.tuple hx
    have hlen := r.length
    cases pl
    cases pu
    refine tail_any (ops := [.ref a, .ref s4.heap.objs.size]) ht.typeIs (PyProof.Rows.slot_tuple_getitem.lookup) ?_ (by with_unfolding_all rfl)
    refine getItem_tuple_rev ht (Heap.IsSliceOf.new _ .none .none vs) ps ?_ (by rw [List.size_toArray]; omega)
    refine ⟨.ref _, _, I5.laid (t' := s4.toks) (o := .tup xs.reverse) (fun b ob q => Heap.get?_push_of_some _ q) (Nat.le_refl _) ?_, rfl, q _ (I5.hok.fresh (Nat.le_refl _))⟩
    exact ⟨by rw [List.length_reverse]; exact hz, _, r.reverse, IsTup.new _ _⟩
theorem Reps.rev {K : PySem.W.Frag} {al : List Addr} {H : Hp} : ∀ {ds : List PI.D} {vs : List V}, Reps K al H ds vs → Reps K al H ds.reverse vs.reverse
  | [], [], _ => Reps.nil
  | d :: ds, v :: vs, h => by
    obtain ⟨w, t, e, h1, h2⟩ := h.inv
    cases e
    rw [List.reverse_cons, List.reverse_cons]
    exact (Reps.rev h2).append (Reps.cons h1 Reps.nil)
  | [], v :: vs, h => by cases h
  | d :: ds, [], h => by obtain ⟨w, t, e, h1, h2⟩ := h.inv; cases e
theorem pe_rev {a : Expr} {fa : S → Res PI.D} {k : Nat} {p1 p2 p3 pos : Pos} (hK : X.K = g.K) (ha : PE X a (rdP g W fa)) :
    PE X (.Subscript a (.Slice none none (some (.UnaryOp .USub (.Constant (.int 1) k p1) p2)) p3) pos) (rdE g W fun s => (fa s).bind fun x s => match x with
      | .tup ds => .ok (.val (.tup ds.reverse)) s
      | .lst ds => .ok (.own ds.reverse) s
      | _ => .bad) := by
  refine (pe_rev0 ha).mono fun σ H Q ⟨b, al, s, R, P⟩ => ⟨b, al, s, R, ?_⟩
  rw [postX_bind] at P
  refine P.mono fun x s1 p v H1 x1 R1 r1 => ?_
  cases x with
  | tup ds =>
    obtain ⟨q, vs, rfl, h1, r⟩ := r1.tup
    have a : Aft g b al s1 σ H1 (.val (.tup ds.reverse)) Q := fun w H4 x4 R4 r4 => p w H4 (x1.trans x4) R4 r4
    exact .inr ⟨q, vs, rfl, by rw [hK]; exact h1, a.tup R1 (Reps.rev r)⟩
  | lst ds =>
    obtain ⟨q, vs, rfl, h1, r⟩ := r1.lst
    have a : Aft g b al s1 σ H1 (.own ds.reverse) Q := fun w H4 x4 R4 r4 => p w H4 (x1.trans x4) R4 r4
    exact .inl ⟨q, vs, rfl, .inl h1, a.new R1 (Reps.rev r)⟩
  | _ => exact p.elim
end
end PI

namespace PI
open PySem PySem.Spec PyProof.Rows L2
section
variable {X : Cx} {e : Expr} {g : G} {W : WX} {b : B} {al : List Addr} {σ : L2.St} {H H' : Hp} {s : S}
/-! ### dicts -/
theorem pe_dct0' {pos : Pos} : PE X (.Dict [] [] pos) (rdE g W fun s => .ok (.dct []) s) := pe_dnewK.mono fun σ H Q ⟨b, al, s, R, P⟩ p hp =>
  P (.ref p) _ (ext_upd hp) (R.alloc hp) ⟨p, [], rfl, upd_same, .nil, R.notAl hp, R.newBase hp, R.away hp⟩
theorem kV_key {k : PI.D} {q : Key} {v : V} (h : keyOf k = some q) (r : PRep g.K al H k v) : v = kV q := by
  cases k <;> simp only [keyOf] at h <;> cases h
  · exact r.int
  · exact r.str
theorem pe_dct1' {ke ve : Expr} {q : Key} {dd : PI.D} {v : V} {pos : Pos} (hk : PE X ke (tC (kV q))) (hv : PE X ve (tC v)) (hr : ∀ al H, Rep g.K al H dd v) :
    PE X (.Dict [some ke] [ve] pos) (rdE g W fun s => .ok (.dct [(q, dd)]) s) := by
  refine (pe_disp (pps_cons hk hv pps_nil) rfl rfl (by simp) (by simp)).mono fun σ H Q ⟨b, al, s, R, P⟩ p hp => ?_
  refine ⟨upd_same, [(q, v)], rfl, by simp, ?_⟩
  have e2 : ∀ o, upd (upd H p (.dK [])) p o = upd H p o := fun o => by
    funext a
    by_cases ha : a = p
    · subst ha; rw [upd_same, upd_same]
    · rw [upd_ne ha, upd_ne ha, upd_ne ha]
  rw [e2]
  exact P (.ref p) _ (ext_upd hp) (R.alloc hp) ⟨p, _, rfl, upd_same, .cons ⟨rfl, hr _ _⟩ .nil, R.notAl hp, R.newBase hp, R.away hp⟩
/-- the dict that a slot holds -/
theorem dct_at {r : RV} {v : V} {kvs : List (Key × PI.D)} {s2 : S} {H2 : Hp} (R2 : Rel g b al s2 σ H2) (tg : ∀ i l, r = .ldc i l → σ[i]? = some (some v)) (e : dctAt r s2 = some kvs) :
    ∃ a ws, v = .ref a ∧ Rd H2 a (.dK ws) ∧ KRep g.K al H2 kvs ws := by
  unfold dctAt at e
  split at e
  · rename_i i l
    have hσ := tg i l rfl
    split at e
    · rename_i kvs' q
      cases e
      obtain ⟨w, ew, a, ws, rfl, h1, h2, _⟩ := R2.sl i _ q
      rw [hσ] at ew; cases ew
      exact ⟨a, ws, rfl, .inl h1, h2⟩
    · rename_i kvs' q
      cases e
      obtain ⟨w, ew, a, o, ws, _, rfl, h1, h2, _⟩ := R2.sl i _ q
      rw [hσ] at ew; cases ew
      exact ⟨a, ws, rfl, .inr ⟨o, h1⟩, h2⟩
    · cases e
  · cases e
theorem RVRep.ldc_tg {r : RV} {v : V} (h : RVRep g b al s σ H r v) : ∀ i l, r = .ldc i l → σ[i]? = some (some v) := fun i l e => by
  subst e
  exact h.2
theorem KRep.get {kvs : List (Key × PI.D)} {ws : List (Key × V)} (h : KRep g.K al H kvs ws) (q : Key) : (∃ d v, kget kvs q = some d ∧ valV ws q = some v ∧ Rep g.K al H d v) ∨ (kget kvs q = none ∧ valV ws q = none) := by
  induction h with
  | nil => exact .inr ⟨rfl, rfl⟩
  | @cons x y l1 l2 p t ih =>
    obtain ⟨k, d⟩ := x
    obtain ⟨k', v⟩ := y
    obtain ⟨p1, p2⟩ := p
    dsimp only at p1 p2
    subst p1
    unfold kget
    by_cases e : k = q
    · left
      rw [if_pos e]
      exact ⟨d, v, rfl, valV_pos (p := (k, v)) e, p2⟩
    · rw [if_neg e, valV_neg (p := (k, v)) e]
      exact ih
theorem KRep.some {kvs : List (Key × PI.D)} {ws : List (Key × V)} (h : KRep g.K al H kvs ws) (q : Key) : (valV ws q).isSome = (kget kvs q).isSome := by
  rcases h.get q with ⟨d, v, e1, e2, _⟩ | ⟨e1, e2⟩ <;> rw [e1, e2] <;> rfl
theorem postX_some {α β : Type} {o : Option α} {f : α → Res β} {ok : β → S → Prop} (h : PostX g b al W σ H ok (match o with | some a => f a | none => .bad)) : ∃ a, o = some a ∧ PostX g b al W σ H ok (f a) := by
  cases o with
  | none => exact h.elim
  | some a => exact ⟨a, rfl, h⟩
/-- a in x -/
theorem pe_din' {n : Bool} {a x : Expr} {fa fx : S → Res RV} {pos : Pos} (hu : X.A.units + 1 < cLine) (ha : PE X a (rdE g W fa)) (hx : PE X x (rdE g W fx)) (hm : behindInMarks (if n then .NotIn else .In) x = false) :
    PE X (.Compare a [if n then .NotIn else .In] [x] pos) (rdE g W fun s => (toP (fa s)).bind fun q s => (fx s).bind fun r s => match keyOf q, dctAt r s with
      | some q, some kvs => .ok (.val (.bl (if n then !(kget kvs q).isSome else (kget kvs q).isSome))) s
      | _, _ => .bad) ∧
    PT X (.Compare a [if n then .NotIn else .In] [x] pos) (rdT g W fun s => toT (toP ((toP (fa s)).bind fun q s => (fx s).bind fun r s => match keyOf q, dctAt r s with
      | some q, some kvs => .ok (.val (.bl (if n then !(kget kvs q).isSome else (kget kvs q).isSome))) s
      | _, _ => .bad))) := by
  have key : ∀ (b : B) (al : List Addr) (s : S) (σ : L2.St) (H : Hp) (Q : Bool → Hp → Prop), Rel g b al s σ H → PostX g b al W σ H (fun c s' => ∀ H', Ext al H H' → Rel g b al s' σ H' → Q c H') ((toP (fa s)).bind fun q s => (fx s).bind fun r s => match keyOf q, dctAt r s with
      | some q, some kvs => .ok (if n then !(kget kvs q).isSome else (kget kvs q).isSome) s
      | _, _ => .bad) → rdP g W (fun s => toP (fa s)) σ H fun y H1 => rdE g W fx σ H1 fun x H2 => ∃ a o, x = .ref a ∧ DGet H2 a y o ∧ Q (if n then !o.isSome else o.isSome) H2 := by
    intro b al s σ H Q R P
    rw [postX_bind] at P
    refine ⟨b, al, s, R, P.mono fun q s1 p v H1 x1 R1 r1 => ⟨b, al, s1, R1, ?_⟩⟩
    rw [postX_bind] at p
    refine p.shift x1 fun r s2 p2 u H2 x2 R2 r2 => ?_
    cases e1 : keyOf q with
    | none => rw [e1] at p2; exact p2.elim
    | some k =>
      cases e2 : dctAt r s2 with
      | none => rw [e1, e2] at p2; exact p2.elim
      | some kvs =>
        rw [e1, e2] at p2
        obtain ⟨a, ws, rfl, h1, h2⟩ := dct_at R2 r2.ldc_tg e2
        refine ⟨a, valV ws k, rfl, .inl ⟨ws, k, h1, kV_key e1 (r1.ext x2), rfl⟩, ?_⟩
        rw [h2.some]
        exact p2 H2 (x1.trans x2) R2
  have conv : ∀ (b : B) (al : List Addr) (s : S) (σ : L2.St) (H : Hp) (ok : RV → S → Prop), PostX g b al W σ H ok ((toP (fa s)).bind fun q s => (fx s).bind fun r s => match keyOf q, dctAt r s with
      | some q, some kvs => .ok (.val (.bl (if n then !(kget kvs q).isSome else (kget kvs q).isSome))) s
      | _, _ => .bad) → PostX g b al W σ H (fun c s' => ok (.val (.bl c)) s') ((toP (fa s)).bind fun q s => (fx s).bind fun r s => match keyOf q, dctAt r s with
      | some q, some kvs => .ok (if n then !(kget kvs q).isSome else (kget kvs q).isSome) s
      | _, _ => .bad) := by
    intro b al s σ H ok P
    rw [postX_bind] at P ⊢
    refine P.mono fun q s1 p => ?_
    rw [postX_bind] at p ⊢
    refine p.mono fun r s2 p2 => ?_
    cases e1 : keyOf q with
    | none => rw [e1] at p2; exact p2.elim
    | some k =>
      cases e2 : dctAt r s2 with
      | none => rw [e1, e2] at p2; exact p2.elim
      | some kvs => rw [e1, e2] at p2; exact p2
  have pc : ∀ {t : TE}, (∀ σ H Q, t σ H Q → rdP g W (fun s => toP (fa s)) σ H fun y H1 => rdE g W fx σ H1 fun x H2 => ∃ a o, x = .ref a ∧ DGet H2 a y o ∧ Q (.bl (if n then !o.isSome else o.isSome)) H2) → PC X (if n then .NotIn else .In) a x t := by
    intro t ht
    cases n with
    | true => exact ⟨fun pins s σ H Q I h => (pc_dnotin hu (pe_P ha) hx).run pins s σ H Q I (ht σ H Q h)⟩
    | false => exact ⟨fun pins s σ H Q I h => (pc_din hu (pe_P ha) hx).run pins s σ H Q I (ht σ H Q h)⟩
  constructor
  · refine (pe_cmp (pc (t := fun σ H Q => _) fun σ H Q h => h) hm).mono fun σ H Q ⟨b, al, s, R, P⟩ => ?_
    refine key b al s σ H (fun c H' => Q (.bl c) H') R ((conv b al s σ H _ P).mono fun c s' p H' x' R' => p _ H' x' R' (by unfold RVRep Rep; rfl))
  · refine (pt_cmp (pc (t := fun σ H Q => _) fun σ H Q h => h) hm).mono fun σ H Q ⟨b, al, s, R, P⟩ => ?_
    unfold toT toP at P
    rw [postX_bind, postX_bind] at P
    exact key b al s σ H (fun c H' => ∃ k, V.bl c = .bl k ∧ Q k H') R ((conv b al s σ H _ P).mono fun c s' p H' x' R' => ⟨c, rfl, p H' x' R'⟩)
/-- x[k] of a dict -/
theorem pe_dix' {x k : Expr} {fx fk : S → Res RV} {pos : Pos} (hu : X.A.units + 1 < cLine) (hx : PE X x (rdE g W fx)) (hk : PE X k (rdE g W fk)) (hs : NoSl k) :
    PE X (.Subscript x k pos) (rdE g W fun s => (fx s).bind fun r s => (toP (fk s)).bind fun q s => match keyOf q, dctAt r s with
      | some q, some kvs => (match kget kvs q with | some d => .ok (.val d) s | none => .bad)
      | _, _ => .bad) := by
  refine (pe_dget hu hx (pe_P hk) hs).mono fun σ H Q ⟨b, al, s, R, P⟩ => ⟨b, al, s, R, ?_⟩
  rw [postX_bind] at P
  refine P.mono fun r s1 p v H1 x1 R1 r1 => ⟨b, al, s1, R1, ?_⟩
  rw [postX_bind] at p
  refine p.shift x1 fun q s2 p2 u H2 x2 R2 r2 => ?_
  cases e1 : keyOf q with
  | none => rw [e1] at p2; exact p2.elim
  | some k =>
    cases e2 : dctAt r s2 with
    | none => rw [e1, e2] at p2; exact p2.elim
    | some kvs =>
      rw [e1, e2] at p2
      obtain ⟨a, ws, rfl, h1, h2⟩ := dct_at R2 r1.ldc_tg e2
      rcases h2.get k with ⟨d, w, g1, g2, g3⟩ | ⟨g1, g2⟩
      · dsimp only at p2
        rw [g1] at p2
        exact ⟨a, w, rfl, .inl ⟨ws, k, h1, kV_key e1 r2, g2.symm⟩, p2 w H2 (x1.trans x2) R2 g3⟩
      · dsimp only at p2
        rw [g1] at p2; exact p2.elim
/-- x.get(k, d) -/
theorem pe_dgt' {x k d : Expr} {fx fk fd : S → Res RV} {apos cpos : Pos} (hu : X.A.units + 1 < cLine) (hx : PE X x (rdE g W fx)) (hk : PE X k (rdE g W fk)) (hd : PE X d (rdE g W fd)) (m : M2 X x "get" apos k d cpos) :
    PE X (.Call (.Attribute x "get" apos) [k, d] [] cpos) (rdE g W fun s => (fx s).bind fun r s => match dctAt r s with
      | none => .bad
      | some _ => (toP (fk s)).bind fun q s => (toV (fd s)).bind fun d s => match keyOf q, dctAt r s with
        | some q, some kvs => .ok (.val ((kget kvs q).getD d)) s
        | _, _ => .bad) := by
  refine (pe_dget2 hu hx (pe_P hk) (pe_V hd) m).mono fun σ H Q ⟨b, al, s, R, P⟩ => ⟨b, al, s, R, ?_⟩
  rw [postX_bind] at P
  refine P.mono fun r s1 p v H1 x1 R1 r1 => ?_
  cases e0 : dctAt r s1 with
  | none => rw [e0] at p; exact p.elim
  | some kvs0 =>
    rw [e0] at p
    obtain ⟨a, ws, rfl, h1, h2⟩ := dct_at R1 r1.ldc_tg e0
    refine ⟨a, rfl, .inl ⟨ws, h1⟩, b, al, s1, R1, ?_⟩
    dsimp only at p
    rw [postX_bind] at p
    refine p.shift x1 fun q s2 p2 u H2 x2 R2 r2 => ⟨b, al, s2, R2, ?_⟩
    rw [postX_bind] at p2
    refine p2.shift (x1.trans x2) fun dd s3 p3 z H3 x3 R3 r3 => ?_
    cases e1 : keyOf q with
    | none => rw [e1] at p3; exact p3.elim
    | some k =>
      cases e2 : dctAt r s3 with
      | none => rw [e1, e2] at p3; exact p3.elim
      | some kvs =>
        rw [e1, e2] at p3
        obtain ⟨a', ws', ea, h1', h2'⟩ := dct_at R3 r1.ldc_tg e2
        cases ea
        refine ⟨valV ws' k, .inl ⟨ws', k, h1', kV_key e1 (r2.ext x3), rfl⟩, ?_⟩
        refine p3 _ H3 ((x1.trans x2).trans x3) R3 ?_
        rcases h2'.get k with ⟨d, w, g1, g2, g3⟩ | ⟨g1, g2⟩
        · rw [g1, g2]; exact g3
        · rw [g1, g2]; exact r3
/-! ### ranges as lists -/
theorem range_rg (lo hi : Int) : ∀ (al : List Addr) (H : Hp), Reps g.K al H (rangeD lo (hi - lo).toNat) (rgV lo hi) := fun al H => by
  unfold rangeD rgV
  generalize (hi - lo).toNat = n
  rw [show (List.range n).map (fun (k : Nat) => PI.D.int (lo + (k : Int))) = ((List.range n).map fun (k : Nat) => lo + (k : Int)).map PI.D.int by rw [List.map_map]; rfl,
    show (List.range n).map (fun (i : Nat) => V.int (lo + (i : Nat))) = ((List.range n).map fun (k : Nat) => lo + (k : Int)).map V.int by rw [List.map_map]; rfl]
  exact reps_ints _
theorem pe_lrng' {a : Expr} {fa : S → Res RV} {p p2 pos2 pos : Pos} (hc : X.calm = true) (hg : Gl X "list") (hm : X.mg "list" = none) (hg2 : Gl X "range") (hm2 : X.mg "range" = none) (hs : notStar a = true) (ha : PE X a (rdE g W fa)) :
    PE X (.Call (.Name "list" p) [.Call (.Name "range" p2) [a] [] pos2] [] pos) (rdE g W fun s => (toI (toP (fa s))).bind fun i s => if decide (i ≤ 1000000) && decide (-1000000 ≤ i) then .ok (.own (rangeD 0 i.toNat)) s else .bad) := by
  refine (pe_listRg hc hg hm (prg_1 hg2 hm2 (pe_P ha) (star_cons hs _ _)) rfl).mono fun σ H Q ⟨b, al, s, R, P⟩ => ⟨b, al, s, R, ?_⟩
  rw [postX_bind] at P
  unfold toI at P
  rw [postX_bind] at P
  refine P.mono fun d s1 p v H1 x1 R1 r1 => ?_
  cases d with
  | int i =>
    replace p : PostX g b al W σ H (okR g b al σ H (fun r s' v H' => RVRep g b al s' σ H' r v) Q) (if decide (i ≤ 1000000) && decide (-1000000 ≤ i) then .ok (.own (rangeD 0 i.toNat)) s1 else .bad) := p
    split at p
    · rename_i hi
      simp only [Bool.and_eq_true, decide_eq_true_eq] at hi
      refine ⟨i, r1.int, ⟨by omega, by omega, by omega, by omega, by omega⟩, fun q hq => ?_⟩
      have h := range_rg (g := g) 0 i al H1
      rw [Int.sub_zero] at h
      exact p _ _ (x1.trans (ext_upd hq)) (R1.alloc hq) (R1.newList hq h)
    · exact p.elim
  | _ => exact p.elim
theorem pe_trng' {a c : Expr} {fa fc : S → Res RV} {p p2 pos2 pos : Pos} (hc : X.calm = true) (hg : Gl X "tuple") (hm : X.mg "tuple" = none) (hg2 : Gl X "range") (hm2 : X.mg "range" = none) (hs : notStar a = true) (hs2 : notStar c = true) (ha : PE X a (rdE g W fa)) (hcc : PE X c (rdE g W fc)) :
    PE X (.Call (.Name "tuple" p) [.Call (.Name "range" p2) [a, c] [] pos2] [] pos) (rdE g W fun s => (toI (toP (fa s))).bind fun i s => (toI (toP (fc s))).bind fun j s => if (decide (i ≤ 1000000) && decide (-1000000 ≤ i)) && (decide (j ≤ 1000000) && decide (-1000000 ≤ j)) then .ok (.val (.tup (rangeD i (j - i).toNat))) s else .bad) := by
  refine (pe_tupRg hc hg hm (prg_2 hg2 hm2 (pe_P ha) (pe_P hcc) (by rw [star_cons hs]) (star_cons hs2 _ _) (by rw [star_cons hs2] <;> rfl)) rfl).mono fun σ H Q ⟨b, al, s, R, P⟩ => ⟨b, al, s, R, ?_⟩
  rw [postX_bind] at P
  unfold toI at P
  rw [postX_bind] at P
  refine P.mono fun d s1 p v H1 x1 R1 r1 => ?_
  cases d with
  | int i =>
    refine ⟨b, al, s1, R1, ?_⟩
    replace p : PostX g b al W σ H (okR g b al σ H (fun r s' v H' => RVRep g b al s' σ H' r v) Q) ((toI (toP (fc s1))).bind fun j s => if (decide (i ≤ 1000000) && decide (-1000000 ≤ i)) && (decide (j ≤ 1000000) && decide (-1000000 ≤ j)) then .ok (.val (.tup (rangeD i (j - i).toNat))) s else .bad) := p
    unfold toI at p
    rw [postX_bind, postX_bind] at p
    refine p.shift x1 fun d2 s2 p2 u H2 x2 R2 r2 => ?_
    cases d2 with
    | int j =>
      replace p2 : PostX g b al W σ H (okR g b al σ H (fun r s' v H' => RVRep g b al s' σ H' r v) Q) (if (decide (i ≤ 1000000) && decide (-1000000 ≤ i)) && (decide (j ≤ 1000000) && decide (-1000000 ≤ j)) then .ok (.val (.tup (rangeD i (j - i).toNat))) s2 else .bad) := p2
      split at p2
      · rename_i hi
        simp only [Bool.and_eq_true, decide_eq_true_eq] at hi
        refine ⟨i, j, r1.int, r2.int, ⟨by omega, by omega, by omega, by omega, by omega⟩, fun q hq => ?_⟩
        exact p2 _ _ ((x1.trans x2).trans (ext_upd hq)) (R2.alloc hq) (R2.newTup hq (range_rg i j al H2))
      · exact p2.elim
    | _ => exact p2.elim
  | _ => exact p.elim
end
end PI

set_option maxHeartbeats 4000000
namespace PI
open PySem PySem.Spec PyProof.Rows L2
section
variable {P : Program} {w : World} {A : Around} {E : Value → Shared → Prop} {s : Shared}
/-- a set without members -/
abbrev bareSet (w : World) : Obj := { cls := .type "set", dict := none, data := .set #[] 0 (.fresh 0 0 (!w.params.followText "set-order")) }
/-- .. laid at the heap's end -/
abbrev withSet (w : World) (s : Shared) : Shared := { s with heap := s.heap.push (bareSet w) }
/-- what stands once the items went in -/
def SetDone (w : World) (s : Shared) (ns : List Int) (t : Shared) : Prop := ∃ (hp : Heap) (tz k : Nat), t = { s with heap := hp, toks := tz } ∧ SetR w hp s.heap.objs.size (fun j => decide (j ∈ ns)) k ∧ k ≤ ns.length ∧ ∀ a u, s.heap.get? a = some u → hp.get? a = some u
/-- set.__init__ of the new set and a list of ints -/
theorem init_list {l : Addr} {its : Array Value} {ns : List Int} (hh : A.handled = none) (hl : s.heap.IsList l its) (hi : IntsAre its.toList ns) (hb : ns.length + 1 < scanBound) :
    codeAny (model P w) A (.call (.builtin "set.__init__") ⟨[.ref s.heap.objs.size, .ref l], []⟩) (wants (fun v t => v = .none ∧ SetDone w s ns t) E) (withSet w s) := by
  have len : its.size = ns.length := by have z := IntsAre.length hi; rw [Array.length_toList] at z; exact z
  have here : (withSet w s).heap.get? s.heap.objs.size = some (bareSet w) := Heap.get?_push_size _ rfl
  have ty : (withSet w s).TypeIs (.ref s.heap.objs.size) "set" := ⟨_, here, rfl⟩
  have hl1 : (withSet w s).heap.IsList l its := hl.push _
  have size1 : (withSet w s).heap.objs.size = s.heap.objs.size + 1 := Heap.size_push ..
  obtain ⟨⟨cl, dd, da, sl⟩, at_, c1, n, d1⟩ := hl
  obtain rfl : cl = .type "list" := c1
  obtain rfl : da = .seq its n := d1
  have lt : l < s.heap.objs.size := Heap.lt_size at_
  have at1 : (withSet w s).heap.get? l = some { cls := .type "list", dict := dd, data := .seq its n, slots := sl } := Heap.get?_push_of_some _ at_
  have no1 := F.sub_list_set
  have no2 := F.sub_list_frozenset
  have no3 : (Value.type "list" == Value.type "dict") = false := by decide
  refine codeAny_call_builtin F.called_set.init.plain F.entry_set_init (check_set_init_1 ty ?_)
  unfold Builtin.«set.__init__» noKeywords Builtin.Frozenset.updateFrom
  generalize hp : pyIter = pit
  wp_walk
  subst hp
  refine wpAny_pyIter_list hl1 ?_
  refine wpAny_bind (wpAny_runValue ?_)
  have hA : A.in1.in1.handled = none := by simp [hh]
  have it1 : l ≠ (withSet w s).heap.objs.size := by rw [size1]; exact Nat.ne_of_lt (Nat.lt_succ_of_lt lt)
  have off : s.heap.objs.size ∉ [(withSet w s).heap.objs.size, l] := by
    rw [size1]
    intro z
    rcases List.mem_cons.mp z with z | z
    · exact absurd z (Nat.ne_of_lt (Nat.lt_succ_self _))
    · exact absurd (List.mem_singleton.mp z) (Nat.ne_of_gt lt)
  have val : ∀ (i : Nat) (v : Value), its[i]? = some v → ∃ k t, ns[i]? = some k ∧ v = .int k t := fun i v hv => by
    have hk : i < ns.length := by rw [← len]; exact (Array.getElem?_eq_some_iff.mp hv).1
    obtain ⟨t, e⟩ := hi.get i _ (List.getElem?_eq_getElem hk)
    rw [Array.getElem?_toList, hv] at e
    cases e
    exact ⟨_, t, List.getElem?_eq_getElem hk, rfl⟩
  refine set_update_ints ((Walks.list hA _ l it1 its).toS) s.heap.objs.size off ns len hb val (its.size - 0) 0 _ (by omega) (Nat.zero_le _) ?at0 ?start fun t c mv hc hS => ?_
  case at0 => exact ⟨⟨_, Heap.get?_push_size _ rfl, rfl, rfl⟩, hl1.push _⟩
  case start => exact ⟨0, Nat.le_refl 0, setR_new_at (Heap.get?_push_of_some _ here)⟩
  obtain ⟨ht, g2, d2, tk2, o2⟩ := t
  have e1 : g2 = s.gens := mv.gens
  have e2 : d2 = s.drawn := mv.drawn
  have e3 : o2 = s.os := mv.os
  subst e1 e2 e3
  refine wpAny_pure ?_
  show wpAny _ _ (ret Value.none) _ _ _
  rw [len] at hc
  refine wpAny_pure ⟨rfl, ht, tk2, c, rfl, hS, hc, fun a u e => mv.heap a u (fun z => ?_) (Heap.get?_push_of_some _ (Heap.get?_push_of_some _ e))⟩
  have la := Heap.lt_size e
  rcases List.mem_cons.mp z with z | z
  · subst z; exact absurd la (Nat.lt_irrefl _)
  · have := List.mem_singleton.mp z
    rw [size1] at this
    subst this
    exact absurd la (Nat.not_lt.mpr (Nat.le_succ _))
set_option maxHeartbeats 3200000 in
theorem set_of_list {l : Addr} {its : Array Value} {ns : List Int} {Q : Value → Shared → Prop} (hh : A.handled = none) (hl : s.heap.IsList l its) (hi : IntsAre its.toList ns) (hb : ns.length + 1 < scanBound) (q : ∀ t, SetDone w s ns t → Q (.ref s.heap.objs.size) t) :
    wpAny (model P w) A (call (.type "set") [.ref l]) Q E s := by
  have ⟨_, _, mro⟩ := F.called_set.mro
  have made := F.called_set.made
  have subs := F.called_set.sub
  refine wpAny_call (codeAny_of_tree ?_)
  show wpAny _ _ (callAny (.type "set") _) _ _ _
  refine wpAny_pure ⟨Code.quiet_builtin _ (by decide +kernel), codeAny_builtin F.entry_type_call ?_⟩
  rw [Around.under_plain (weight_type_call_type "set" [.ref l] []) rfl]
  have nt := F.called_set.notType
  have cc := F.called_set.canCreate
  have tc := F.typeCall_set_1 (.ref l)
  repeat (any_goals (first | assumption | wp_step))
  refine codeAny_mono (code_set_led1 (.ref l) (E := E) (Q₁ := fun z t => z = .ref s.heap.objs.size ∧ t = withSet w s) ⟨rfl, rfl⟩) fun r t hr => ?_
  match r, hr with
  | .error e, hr => exact hr
  | .ok (.ret z), ⟨e1, e2⟩ =>
    subst e1 e2
    have at_ : (withSet w s).heap.get? s.heap.objs.size = some (bareSet w) := Heap.get?_push_size _ rfl
    have ty : (withSet w s).TypeIs (.ref s.heap.objs.size) "set" := ⟨_, at_, rfl⟩
    have look := F.called_set.init.lookup
    have bnd := F.called_set.init.bind (.ref s.heap.objs.size)
    repeat (any_goals (first | assumption | wp_step))
    refine codeAny_mono (init_list (E := E) (show A.in1.handled = none by simp [hh]) hl hi hb) fun r2 t2 h2 => ?_
    match r2, h2 with
    | .error e, h2 => exact h2
    | .ok (.ret z2), ⟨e3, dn⟩ =>
      subst e3
      repeat (any_goals (first | assumption | wp_step))
      exact q _ dn
    | .ok .next, h2 => exact h2.elim
    | .ok .brk, h2 => exact h2.elim
    | .ok .cont, h2 => exact h2.elim
  | .ok .next, hr => exact hr.elim
  | .ok .brk, hr => exact hr.elim
  | .ok .cont, hr => exact hr.elim
end
section
variable {X : Cx} {g : G} {W : WX}
/-- set(e) of a list of ints -/
def rSetOfL (K : PySem.W.Frag) (w : World) : List V → Hp → VK → Prop := fun xs H Q => ∃ (l : Addr) (ns : List Int), xs = [V.ref l] ∧ SqL K H l (ns.map V.int) ∧ ns.length < 60 ∧ ∀ p k, k ≤ ns.length → H p = none → Q (.ref p) (upd H p (SetO w p (fun j => decide (j ∈ ns)) k))
theorem cr_setL (hc : X.calm = true) : CallR X (.type "set") (rSetOfL X.K X.w) := by
  intro pins s σ H xs us Q I r h
  obtain ⟨l, ns, rfl, hs, h60, q⟩ := h
  obtain ⟨its, rv, hl, _⟩ := I.list hs
  rw [Vals.ref1 r]
  refine set_of_list (I.ok.hd hc) hl.isList rv.ints (by have : (64 : Nat) ≤ scanBound := by decide
                                                        omega) fun t ⟨hp, tz, k, e, hS, hk, keep⟩ => ?_
  subst e
  exact ⟨.ref _, _, I.laid (t' := tz) keep (Nat.le_refl _) (setO_new hS), rfl, q _ k hk (I.hok.fresh (Nat.le_refl _))⟩
theorem once_mem (i : Int) : ∀ ns : List Int, i ∈ once ns ↔ i ∈ ns
  | [] => by simp [once]
  | j :: r => by
    unfold once
    split
    · rename_i h
      rw [once_mem i r, List.mem_cons]
      constructor
      · exact .inr
      · rintro (rfl | z)
        · exact h
        · exact z
    · rw [List.mem_cons, List.mem_cons, once_mem i r]
theorem once_nodup : ∀ ns : List Int, (once ns).Nodup
  | [] => by simp [once]
  | j :: r => by
    unfold once
    split
    · exact once_nodup r
    · rename_i h
      rw [List.nodup_cons]
      exact ⟨fun z => h ((once_mem j r).mp z), once_nodup r⟩
theorem lt_of_sorted : ∀ {l : List Int}, l.Pairwise (· ≤ ·) → l.Nodup → l.Pairwise (· < ·)
  | [], _, _ => .nil
  | a :: r, h, n => by
    rw [List.pairwise_cons] at h
    rw [List.nodup_cons] at n
    rw [List.pairwise_cons]
    exact ⟨fun b hb => Int.lt_iff_le_and_ne.mpr ⟨h.1 b hb, fun z => n.1 (z ▸ hb)⟩, lt_of_sorted h.2 n.2⟩
theorem sorted_eq {a b : List Int} (ha : a.Pairwise (· < ·)) (hb : b.Pairwise (· < ·)) (h : ∀ i, i ∈ a ↔ i ∈ b) : a = b := by
  have na : a.Nodup := ha.imp fun z => Int.ne_of_lt z
  have nb : b.Nodup := hb.imp fun z => Int.ne_of_lt z
  have p : a.Perm b := (List.perm_ext_iff_of_nodup na nb).mpr h
  exact PySem.W.ksm_same p (ha.imp fun z => Int.le_of_lt z) (hb.imp fun z => Int.le_of_lt z)
theorem sset_sorted (ns : List Int) : (sortD (once ns)).Pairwise (· < ·) :=
  lt_of_sorted (sortD_sorted _) ((sortD_perm _).symm.nodup (once_nodup ns))
/-- sorted(set(e)) -/
theorem pe_sset' {e : Expr} {f : S → Res RV} {p p2 pos2 pos : Pos} (hK : X.K = g.K) (hc : X.calm = true) (hg : Gl X "sorted") (hm : X.mg "sorted" = none) (hg2 : Gl X "set") (hm2 : X.mg "set" = none) (hs : notStar e = true) (he : PE X e (rdE g W f)) :
    PE X (.Call (.Name "sorted" p) [.Call (.Name "set" p2) [e] [] pos2] [] pos) (rdE g W fun s => (toP (f s)).bind fun x s => match x with
      | .lst ds => (match intsOf ds with | some ns => if ns.length < 60 then .ok (.own ((sortD (once ns)).map PI.D.int)) s else .bad | none => .bad)
      | _ => .bad) := by
  have st := star_cons hs [] X.env
  have h1 := pe_callTy (cr_setL hc) hg2 hm2 (by decide +kernel : bootBuiltins "set" = some (.type "set")) (pa_cons (pe_P he) pa_nil st) (by decide) (by decide) st (p := p2) (pos := pos2)
  have h2 := pe_callB (cr_sortedSet hc) hg hm (by decide +kernel : bootBuiltins "sorted" = some (.builtin "sorted")) (pa_cons h1 pa_nil (by rfl)) (by decide) (by decide) (by rfl) (p := p) (pos := pos)
  refine h2.mono fun σ H Q ⟨b, al, s, R, P⟩ => ⟨b, al, s, R, ?_⟩
  rw [postX_bind] at P
  refine P.mono fun d s1 q v H1 x1 R1 r1 => ?_
  cases d with
  | lst ds =>
    obtain ⟨a, vs, rfl, hd, rs⟩ := r1.lst
    dsimp only at q
    split at q
    · rename_i ns en
      split at q
      · rename_i hl
        rw [rs.ints en] at hd
        refine ⟨a, ns, rfl, .inl hd, hl, fun p k hk hp => ⟨p, _, k, rfl, upd_same, by omega, fun ms z lt mem len hz => ?_⟩⟩
        have e1 : ms = sortD (once ns) := sorted_eq lt (sset_sorted ns) fun i => by
          rw [mem i, decide_eq_true_eq, (sortD_perm _).mem_iff, once_mem]
        subst e1
        have x2 : Ext al H1 (upd H1 p (SetO X.w p (fun j => decide (j ∈ ns)) k)) := ext_upd hp
        have R2 : Rel g b al s1 σ (upd H1 p (SetO X.w p (fun j => decide (j ∈ ns)) k)) := R1.alloc hp
        exact q _ _ ((x1.trans x2).trans (ext_upd hz)) (R2.alloc hz) (R2.newList hz (reps_ints _))
      · exact q.elim
    · exact q.elim
  | _ => exact q.elim
end
end PI

namespace PI
open PySem PySem.Spec PyProof.Rows L2

/-- where code stands: its names, its scope; whether nothing is being handled; the slot of an error that is held and its class; whether a def's own body -/
structure Ctx where
  N : List Str
  sc : Scope
  calm : Bool
  ex : Option (Nat × Str)
  top : Bool
/-- the text's defs (name, number of parameters), its ints, its errors' classes -/
structure Tab where
  fns : List (Str × Nat)
  glb : List (Str × Int)
  exc : List (Str × Nat)
  hnd : List (Str × List Nat × List Nat)
  fld : Nat → Str
def Ctx.blk (c : Ctx) (scope : Scope) : Ctx := { N := c.N, sc := relS scope c.sc, calm := true, ex := none, top := false }
def bltNames : List Str := ["len", "abs", "int", "max", "min", "sum", "all", "any", "tuple", "list", "sorted", "isinstance", "bool", "str", "range", "enumerate", "zip", "reversed", "set"]

/-- an error's field may be read -/
structure FldOk (K : PySem.W.Frag) (C : Addr) (f : Str) : Prop where
  ga : PySem.W.findIn K (.ref C) "__getattribute__" = some (some (.builtin "BaseException.__getattribute__"))
  gg : PySem.W.findIn K (.ref C) "__getattr__" = some none
  noN : PySem.W.findIn K (.ref C) f = some none
  exC : PySem.W.subIn K (.ref C) (.type "BaseException") = some true
  hdC : PySem.W.hasDictIn K C = true
def SmallV : V → Prop
  | .str x => x.length ≤ 1000
  | _ => False
/-- x(e) makes an error of the class at C, its field f the argument -/
def MkOk (P : Program) (K : PySem.W.Frag) (mg : Str → Option Value) (C : Addr) (f : Str) (x : Str) : Prop :=
  ∀ (X : Cx) (lv : Nat) (a : Expr) (ta : TA) (p pos : Pos), X.prog = P → X.K = K → X.mg = mg → Room lv X.A → Gl X x → notStar a = true → PA X [a] ta →
    PMk X (.Call (.Name x p) [a] [] pos) (fun σ H Q => ta σ H fun vs H1 => ∃ v, vs = [v] ∧ SmallV v ∧ ∀ d, H1 d = none → Q (.ref C) (some d) (upd H1 d (.xd [(f, v)])))
structure XOk (X : Cx) (g : G) (T : Tab) (Φ : Fns) (lv : Nat) (c : Ctx) (W : WX) : Prop where
  K : X.K = g.K
  N : X.N = c.N
  sc : X.env.scope = c.sc
  nd : X.N.Nodup
  tk : Takes X W
  own : PassesOwn (model X.prog X.w) X.A X.env X.xe
  units : X.A.units + 65 < cLine
  calm : c.calm = true → X.calm = true ∧ Room lv X.A
  top : c.top = true → ∀ x, X.fn x = true
  stk : c.top = true → X.stack = X.env :: X.outer ∧ X.env.frame = some X.env.locals
  blt : ∀ x ∈ bltNames, X.mg x = none
  glb : ∀ x n, T.glb.lookup x = some n → ∃ t, X.mg x = some (.int n t)
  fn : ∀ f n, T.fns.lookup f = some n → ∃ a fd ps, ps.length = n ∧ X.mg f = some (.ref a) ∧ PySem.W.keepIn X.K (.ref a) = true ∧ FnOk X.prog X.w X.K X.mg X.base (L2.CX X.prog X.w) lv a fd ps (spF g Φ f n) ∧ Binds X.K fd ps []
  ex : ∀ i f, c.ex = some (i, f) → ∃ (X' : Cx) (a : Addr) (oe : Obj) (pn : List (Addr × Obj)) (k : Nat) (d : Addr), X = X'.suite a ((a, oe) :: pn) ∧ Zc (.ref (g.C k)) (some d) oe ∧ (∃ vs, oe.data = .fields vs) ∧ g.ea = some (a, .ref (g.C k), some d) ∧ g.F k = f ∧ FldOk X.K (g.C k) f
  made : ∀ x k, T.exc.lookup x = some k → MkOk X.prog X.K X.mg (g.C k) (g.F k) x
  hnd : ∀ x cs no, T.hnd.lookup x = some (cs, no) → ∃ v, X.mg x = some v ∧ (∀ k ∈ cs, PySem.W.exmOne X.K (.ref (g.C k)) v = some true ∧ g.F k = T.fld k ∧ FldOk X.K (g.C k) (g.F k)) ∧ ∀ k ∈ no, PySem.W.exmOne X.K (.ref (g.C k)) v = some false
  inj : ∀ k k', g.C k = g.C k' → k = k'
theorem XOk.blk {X : Cx} {g : G} {T : Tab} {Φ : Fns} {lv : Nat} {c : Ctx} {W : WX} (h : XOk X g T Φ lv c W) (hc : c.calm = true) (s : Shared) (H : Hp) (scope : Scope) (C : Addr) (cl : List (Str × Addr)) (fp : List Addr) :
    XOk (X.blk s H scope (compEnvC scope cl C X.env) fp) g T Φ lv (c.blk scope) W0 where
  K := h.K
  N := h.N
  sc := by show relS scope X.env.scope = _; rw [h.sc]; rfl
  nd := h.nd
  tk := takes0
  own := PassesOwn.never
  units := h.units
  calm := fun _ => h.calm hc
  top := fun z => by cases z
  stk := fun z => by cases z
  blt := h.blt
  glb := h.glb
  fn := h.fn
  ex := fun i k z => by cases z
  made := h.made
  hnd := h.hnd
  inj := h.inj

/-! ### the looks -/
def visB (sc : Scope) (x : Str) : Bool := match sc.names.lookup x with
  | some .local => true
  | some .cell => true
  | some .free => true
  | _ => false
def nmB (c : Ctx) (i : Nat) (x : Str) : Bool := decide (c.N[i]? = some x) && visB c.sc x && !(x == "__debug__") && !(x == "__classdict__")
def glB (c : Ctx) (x : Str) : Bool := decide (c.sc.names.lookup x = some .globalImplicit) && !(x == "__debug__")
def locB (sc : Scope) (x : Str) : Bool := match sc.names.lookup x with
  | some .local => true
  | some .cell => true
  | _ => false
/-- a target's name -/
def stB (c : Ctx) (i : Nat) (x : Str) : Bool := c.top && decide (c.N[i]? = some x) && locB c.sc x
def stsB (c : Ctx) : List Nat → List Expr → Bool
  | [], [] => true
  | i :: is, .Name x _ :: es => stB c i x && stsB c is es
  | _, _ => false
def tgB (c : Ctx) : MT → Expr → Bool
  | .name i, .Name x _ => stB c i x
  | .tup is, .Tuple es _ _ => c.calm && stsB c is es
  | _, _ => false
/-- .. in a comprehension's block -/
def stK (N : List Str) (sc scope : Scope) (i : Nat) (x : Str) : Bool := decide (N[i]? = some x) && locB scope x && locB (relS scope sc) x && (decide (scope.names.lookup x = some .cell) || decide ((relS scope sc).names.lookup x = some .local))
def stsK (N : List Str) (sc scope : Scope) : List Nat → List Expr → Bool
  | [], [] => true
  | i :: is, .Name x _ :: es => stK N sc scope i x && stsK N sc scope is es
  | _, _ => false
def tgK (N : List Str) (sc scope : Scope) : MT → Expr → Bool
  | .name i, .Name x _ => stK N sc scope i x
  | .tup is, .Tuple es _ _ => stsK N sc scope is es
  | _, _ => false
def ownOf : MT → Expr → List (Str × Nat)
  | .name i, .Name x _ => [(x, i)]
  | .tup is, .Tuple es _ _ => (es.zip is).filterMap fun p => match p.1 with | .Name x _ => some (x, p.2) | _ => none
  | _, _ => []
def cstB : D → Expr → Bool
  | .int i, .Constant (.int j) _ _ => i == j
  | .str x, .Constant (.str y) _ _ => decide (x = y)
  | .bl a, .Constant (.bool b) _ _ => a == b
  | .non, .Constant .none _ _ => true
  | _, _ => false
def notSlice : Expr → Bool
  | .Slice _ _ _ _ => false
  | _ => true
def notSet : Expr → Bool
  | .Set _ _ _ => false
  | _ => true
def notCall0 : Expr → Bool
  | .Call (.Name _ _) [] [] _ => false
  | _ => true
mutual
def chE (T : Tab) (c : Ctx) : ME → Expr → Bool
  | .var i, e => match e with | .Name x _ => nmB c i x | _ => false
  | .cst d, e => cstB d e
  | .glb x n, e => match e with | .Name y _ => decide (x = y) && glB c x && decide (T.glb.lookup x = some n) | _ => false
  | .tup es, e => match e with | .Tuple fs _ _ => chEs T c es fs && decide (fs.length ≤ 1000) | _ => false
  | .lst es, e => match e with | .List fs _ => chEs T c es fs && decide (fs.length ≤ 1000) | _ => false
  | .bin o a b, e => match e with | .BinOp x op y _ => decide (op = opOf o) && chE T c a x && chE T c b y | _ => false
  | .neg a, e => match e with | .UnaryOp .USub x _ => chE T c a x | _ => false
  | .not a, e => match e with | .UnaryOp .Not x _ => chE T c a x | _ => false
  | .bop k es, e => match e with | .BoolOp op fs _ => decide (op = if k then .And else .Or) && chB T c es fs | _ => false
  | .cmp a cs, e => match e with | .Compare x (op :: ops) (y :: ys) _ => chE T c a x && chC T c cs (op :: ops) (y :: ys) && !lastMarks (op :: ops) (y :: ys) && decide (ops.length = ys.length) | _ => false
  | .call f es, e => match e with | .Call (.Name x _) (y :: ys) [] _ => c.calm && decide (x = f) && glB c f && chEs T c es (y :: ys) && decide (T.fns.lookup f = some (y :: ys).length) | _ => false
  | .blt f es, e => match e with
    | .Call (.Name x _) (y :: ys) [] _ => c.calm && decide (x = blName f) && decide (f ≠ .bits) && glB c x && chEs T c es (y :: ys)
    | .Call (.Attribute o m apos) [] [] pos => (match es with | .cons e1 .nil => decide (f = .bits) && decide (m = "bit_length") && chE T c e1 o && notCall0 o && (apos.endLine == pos.line) | _ => false)
    | _ => false
  | .isi a t, e => match e with | .Call (.Name n _) [x, .Name m _] [] _ => decide (n = "isinstance") && decide (m = Str.ofString (tyName t)) && glB c n && glB c m && notStar x && chE T c a x | _ => false
  | .idx a b, e => match e with | .Subscript x y _ => chE T c a x && chE T c b y && notSlice y | _ => false
  | .slc a lo hi, e => match e with | .Subscript x (.Slice l h none _) _ => chE T c a x && chO T c lo l && chO T c hi h | _ => false
  | .rev a, e => match e with | .Subscript x (.Slice none none (some (.UnaryOp .USub (.Constant (.int i) _ _) _)) _) _ => decide (i = 1) && chE T c a x | _ => false
  | .dct0, e => match e with | .Dict [] [] _ => true | _ => false
  | .dct1 q d, e => match e with | .Dict [some ke] [ve] _ => cstB (keyD q) ke && cstB d ve | _ => false
  | .din n a x, e => match e with | .Compare y [op] [z] _ => decide (op = if n then .NotIn else .In) && chE T c a y && chE T c x z && !behindInMarks (if n then .NotIn else .In) z | _ => false
  | .dix x k, e => match e with | .Subscript y i _ => chE T c x y && chE T c k i && notSlice i | _ => false
  | .dgt x k d, e => match e with | .Call (.Attribute y m apos) [ke, de] [] cpos => decide (m = "get") && chE T c x y && chE T c k ke && chE T c d de && notCall0 y && notStar ke && notStar de && (apos.endLine == cpos.line) | _ => false
  | .sset a, e => match e with | .Call (.Name n _) [.Call (.Name m _) [x] [] _] [] _ => c.calm && decide (n = "sorted") && decide (m = "set") && glB c n && glB c m && notStar x && chE T c a x | _ => false
  | .lrng a, e => match e with | .Call (.Name n _) [.Call (.Name m _) [x] [] _] [] _ => c.calm && decide (n = "list") && decide (m = "range") && glB c n && glB c m && notStar x && chE T c a x | _ => false
  | .trng a b, e => match e with | .Call (.Name n _) [.Call (.Name m _) [x, y] [] _] [] _ => c.calm && decide (n = "tuple") && decide (m = "range") && glB c n && glB c m && notStar x && notStar y && chE T c a x && chE T c b y | _ => false
  | .lc elt tg it cond, e => match e with
    | .ListComp y [⟨t, i, ifs, k⟩] scope _ => c.calm && decide (k = 0) && tgK c.N c.sc scope tg t && blkC c.N c.sc scope (ownOf tg t) && decide ((ownOf tg t).map (·.2) = tg.ids) && chI T c it t i && notSet i && chCond T (c.blk scope) cond ifs && chE T (c.blk scope) elt y
    | _ => false
  | .lc2 elt tg it cond tg1 it1 cond1, e => match e with
    | .ListComp y [⟨t, i, ifs, k⟩, ⟨t1, i1, ifs1, kk⟩] scope _ => c.calm && decide (k = 0) && decide (kk = 0) && tgK c.N c.sc scope tg t && tgK c.N c.sc scope tg1 t1 && blkC c.N c.sc scope (ownOf tg t ++ ownOf tg1 t1) && decide ((ownOf tg t ++ ownOf tg1 t1).map (·.2) = tg.ids ++ tg1.ids) && chI T c it t i && notSet i && chCond T (c.blk scope) cond ifs && chI T (c.blk scope) it1 t1 i1 && notSet i1 && chCond T (c.blk scope) cond1 ifs1 && chE T (c.blk scope) elt y
    | _ => false
  | .fld i, e => match e with | .Attribute (.Name x _) f _ => nmB c i x && (match c.ex with | some (j, f') => decide (i = j) && decide (f = f') | none => false) | _ => false
  | .isx _ _, _ => false
def chEs (T : Tab) (c : Ctx) : MEs → List Expr → Bool
  | .nil, es => match es with | [] => true | _ => false
  | .cons m ms, es => match es with | e :: es => notStar e && chE T c m e && chEs T c ms es | _ => false
def chB (T : Tab) (c : Ctx) : MEs → List Expr → Bool
  | .nil, es => false
  | .cons m ms, es => match ms, es with
    | .nil, [e] => chE T c m e
    | .cons m2 ms2, e :: e2 :: es => chE T c m e && chB T c ms (e2 :: es)
    | _, _ => false
def chC (T : Tab) (c : Ctx) : MCs → List CmpOp → List Expr → Bool
  | .nil, _, _ => false
  | .cons o m r, ops, es => match r, ops, es with
    | .nil, [op], [e] => decide (op = copOf o) && chE T c m e
    | .cons _ _ _, op :: op2 :: ops, e :: e2 :: es => decide (op = copOf o) && chE T c m e && chC T c r (op2 :: ops) (e2 :: es)
    | _, _, _ => false
def chO (T : Tab) (c : Ctx) : MO → Option Expr → Bool
  | .none, o => match o with | none => true | _ => false
  | .some m, o => match o with | some e => chE T c m e | _ => false
def chCond (T : Tab) (c : Ctx) : MO → List Expr → Bool
  | .none, o => match o with | [] => true | _ => false
  | .some m, o => match o with | [e] => chE T c m e | _ => false
def chI (T : Tab) (c : Ctx) : MI → Expr → Expr → Bool
  | .seq m, _, e => chE T c m e
  | .rng1 m, _, e => match e with | .Call (.Name n _) [x] [] _ => decide (n = "range") && glB c n && notStar x && chE T c m x | _ => false
  | .rng2 m1 m2, _, e => match e with | .Call (.Name n _) [x, y] [] _ => decide (n = "range") && glB c n && notStar x && notStar y && chE T c m1 x && chE T c m2 y | _ => false
  | .rng3 m1 m2 m3, _, e => match e with | .Call (.Name n _) [x, y, z] [] _ => decide (n = "range") && glB c n && notStar x && notStar y && notStar z && chE T c m1 x && chE T c m2 y && chE T c m3 z | _ => false
  | .enum m, t, e => match t, e with | .Tuple _ _ _, .Call (.Name n _) [x] [] _ => decide (n = "enumerate") && glB c n && notStar x && chE T c m x | _, _ => false
  | .zip m1 m2, t, e => match t, e with | .Tuple _ _ _, .Call (.Name n _) [x, y] [] _ => decide (n = "zip") && glB c n && notStar x && notStar y && chE T c m1 x && chE T c m2 y | _, _ => false
  | .revd m, _, e => match e with | .Call (.Name n _) [x] [] _ => decide (n = "reversed") && glB c n && notStar x && chE T c m x | _ => false
end

section
variable {X : Cx} {g : G} {T : Tab} {Φ : Fns} {lv : Nat} {c : Ctx} {W : WX}
theorem XOk.nm (h : XOk X g T Φ lv c W) {i : Nat} {x : Str} (k : nmB c i x = true) : X.N[i]? = some x ∧ Vis X.env.scope x ∧ (x == ("__debug__" : Str)) = false ∧ (x == ("__classdict__" : Str)) = false := by
  unfold nmB at k
  simp only [Bool.and_eq_true, decide_eq_true_eq, Bool.not_eq_true'] at k
  obtain ⟨⟨⟨k1, k2⟩, k3⟩, k4⟩ := k
  refine ⟨by rw [h.N]; exact k1, ?_, k3, k4⟩
  unfold visB at k2
  rw [h.sc]
  split at k2
  · exact .inl (by assumption)
  · exact .inr (.inl (by assumption))
  · exact .inr (.inr (by assumption))
  · cases k2
theorem XOk.gl (h : XOk X g T Φ lv c W) {x : Str} (k : glB c x = true) : Gl X x ∧ (x == ("__debug__" : Str)) = false := by
  unfold glB at k
  simp only [Bool.and_eq_true, decide_eq_true_eq, Bool.not_eq_true'] at k
  refine ⟨?_, k.2⟩
  show X.env.scope.names.lookup x = _
  rw [h.sc]
  exact k.1
theorem locB_ok {sc : Scope} {x : Str} (h : locB sc x = true) : Loc sc x := by
  unfold locB at h
  split at h
  · exact .inl (by assumption)
  · exact .inr (by assumption)
  · cases h
theorem XOk.st (h : XOk X g T Φ lv c W) {i : Nat} {x : Str} (k : stB c i x = true) : NmOk X i x := by
  unfold stB at k
  simp only [Bool.and_eq_true, decide_eq_true_eq] at k
  obtain ⟨⟨k1, k2⟩, k3⟩ := k
  exact ⟨by rw [h.N]; exact k2, by rw [h.sc]; exact locB_ok k3, .inl (h.top k1 x)⟩
theorem XOk.sts (h : XOk X g T Φ lv c W) : ∀ {is : List Nat} {es : List Expr}, stsB c is es = true → NmsOk X is es
  | [], [], _ => .nil
  | [], _ :: _, k => by simp [stsB] at k
  | i :: is, [], k => by simp [stsB] at k
  | i :: is, e :: es, k => by
    cases e <;> simp only [stsB] at k <;> try (cases k; done)
    rw [Bool.and_eq_true] at k
    exact .cons (h.st k.1) (h.sts k.2)
theorem XOk.tg (h : XOk X g T Φ lv c W) {tg : MT} {e : Expr} (k : tgB c tg e = true) : TgE X tg e := by
  cases tg with
  | name i =>
    cases e <;> simp only [tgB] at k <;> try (cases k; done)
    exact .name (h.st k)
  | tup is =>
    cases e <;> simp only [tgB] at k <;> try (cases k; done)
    rw [Bool.and_eq_true] at k
    exact .tup (h.calm k.1).1 (h.sts k.2)
theorem XOk.stK (h : XOk X g T Φ lv c W) {i : Nat} {x : Str} {scope : Scope} (k : stK c.N c.sc scope i x = true) (s : Shared) (H : Hp) (C : Addr) (cl : List (Str × Addr)) (fp : List Addr) : NmOk (X.blk s H scope (compEnvC scope cl C X.env) fp) i x := by
  unfold PI.stK at k
  simp only [Bool.and_eq_true, Bool.or_eq_true, decide_eq_true_eq] at k
  obtain ⟨⟨⟨k1, k2⟩, k3⟩, k4⟩ := k
  refine ⟨by show X.N[i]? = _; rw [h.N]; exact k1, ?_, ?_⟩
  · show Loc (relS scope X.env.scope) x
    rw [h.sc]
    exact locB_ok k3
  · rcases k4 with k4 | k4
    · left
      show (scope.names.lookup x == some .cell) = true
      rw [k4]; rfl
    · right
      show (relS scope X.env.scope).names.lookup x = _
      rw [h.sc]
      exact k4
theorem XOk.stsK (h : XOk X g T Φ lv c W) {scope : Scope} (s : Shared) (H : Hp) (C : Addr) (cl : List (Str × Addr)) (fp : List Addr) : ∀ {is : List Nat} {es : List Expr}, stsK c.N c.sc scope is es = true → NmsOk (X.blk s H scope (compEnvC scope cl C X.env) fp) is es
  | [], [], _ => .nil
  | [], _ :: _, k => by simp [PI.stsK] at k
  | i :: is, [], k => by simp [PI.stsK] at k
  | i :: is, e :: es, k => by
    cases e <;> simp only [PI.stsK] at k <;> try (cases k; done)
    rw [Bool.and_eq_true] at k
    exact .cons (h.stK k.1 s H C cl fp) (h.stsK s H C cl fp k.2)
theorem XOk.tgK (h : XOk X g T Φ lv c W) (hc : c.calm = true) {tg : MT} {e : Expr} {scope : Scope} (k : tgK c.N c.sc scope tg e = true) (s : Shared) (H : Hp) (C : Addr) (cl : List (Str × Addr)) (fp : List Addr) : TgE (X.blk s H scope (compEnvC scope cl C X.env) fp) tg e := by
  cases tg with
  | name i =>
    cases e <;> simp only [PI.tgK] at k <;> try (cases k; done)
    exact .name (h.stK k s H C cl fp)
  | tup is =>
    cases e <;> simp only [PI.tgK] at k <;> try (cases k; done)
    exact .tup (h.calm hc).1 (h.stsK s H C cl fp k)
theorem attrBase {e : Expr} (h : notCall0 e = true) (f : Str) (env : Env) (whole : Sem Value) : attributeBase e f env whole = whole := by
  unfold attributeBase
  cases e with
  | Call fn args kw p =>
    cases fn with
    | Name n q => cases args <;> cases kw <;> first | rfl | (cases h)
    | _ => first | rfl | (cases args <;> cases kw <;> rfl)
  | _ => rfl
theorem foldedSet {e : Expr} (h : notSet e = true) (env : Env) (x : Value) : foldedSetIterable e env x = pure x := by
  unfold foldedSetIterable
  cases e <;> first | rfl | (cases h)
theorem evs_len (Φ : Fns) (pk : Bool) : ∀ (T : Tab) (c : Ctx) (ms : MEs) (es : List Expr), chEs T c ms es = true → ∀ s ds s', evs Φ pk ms s = .ok ds s' → ds.length = es.length
  | T, c, .nil, es, h, s, ds, s', e => by
    cases es with
    | nil => simp only [evs] at e; cases e; rfl
    | cons _ _ => simp [chEs] at h
  | T, c, .cons m ms, es, h, s, ds, s', e => by
    cases es with
    | nil => simp [chEs] at h
    | cons x xs =>
      simp only [chEs, Bool.and_eq_true] at h
      simp only [evs] at e
      cases q : (if pk = true then toP (ev Φ m s) else toV (ev Φ m s)) with
      | exc _ _ _ => rw [q] at e; cases e
      | bad => rw [q] at e; cases e
      | ok d s1 =>
        rw [q] at e
        simp only [Res.bind] at e
        cases q2 : evs Φ pk ms s1 with
        | exc _ _ _ => rw [q2] at e; cases e
        | bad => rw [q2] at e; cases e
        | ok ds2 s2 =>
          rw [q2] at e
          cases e
          simp [evs_len Φ pk T c ms xs h.2 s1 _ _ q2]
theorem stars_of (T : Tab) (c : Ctx) : ∀ (ms : MEs) (es : List Expr), chEs T c ms es = true → es.all notStar = true
  | .nil, es, h => by cases es <;> simp [chEs] at h ⊢
  | .cons m ms, es, h => by
    cases es with
    | nil => simp [chEs] at h
    | cons e es =>
      simp only [chEs, Bool.and_eq_true] at h
      simp only [List.all_cons, Bool.and_eq_true]
      exact ⟨h.1.1, stars_of T c ms es h.2⟩
end
end PI

namespace PI
open PySem PySem.Spec PyProof.Rows L2
theorem relO_one {f : Str} {v : V} {v' : Value} (r : RelV v v') (y : Str) : RelO (List.lookup y [(f, v)]) (if y = f then some v' else none) := by
  by_cases hw : y = f
  · subst hw
    rw [if_pos rfl]
    have q : List.lookup y [(y, v)] = some v := by simp [List.lookup]
    rw [q]
    exact r
  · rw [if_neg hw]
    have qw : (y == f) = false := by simpa using hw
    have q2 : List.lookup y [(f, v)] = none := by simp [List.lookup, qw]
    rw [q2]
    trivial
theorem pe_fld' {X : Cx} {g : G} {W : WX} {a : Addr} {oe : Obj} {pn : List (Addr × Obj)} {i : Nat} {x f : Str} {k : Nat} {d : Addr} {p q : Pos} (h1 : X.N[i]? = some x) (h2 : Vis X.env.scope x) (h3 : (x == ("__debug__" : Str)) = false) (h4 : (x == ("__classdict__" : Str)) = false)
    (hz : Zc (.ref (g.C k)) (some d) oe) (hf : ∃ vs, oe.data = .fields vs) (ea : g.ea = some (a, .ref (g.C k), some d)) (eF : g.F k = f) (inj : ∀ k k', g.C k = g.C k' → k = k') (T : FldOk X.K (g.C k) f) :
    PE (X.suite a ((a, oe) :: pn)) (.Attribute (.Name x q) f p) (rdE g W fun s => match s.t[i]? with
      | some (some (.exc _ d)) => .ok (.val d) s
      | _ => .bad) := by
  refine ⟨fun pins s σ H Q I h => ?_⟩
  obtain ⟨b, al, st, R, P⟩ := h
  have P : PostX g b al W σ H (okR g b al σ H (fun r s' v H' => RVRep g b al s' σ H' r v) Q) (match st.t[i]? with
      | some (some (.exc _ d)) => .ok (.val d) st
      | _ => .bad : Res RV) := P
  cases e : st.t[i]? with
  | none => rw [e] at P; exact P.elim
  | some o =>
  cases o with
  | none => rw [e] at P; exact P.elim
  | some sl =>
  cases sl with
  | val _ => rw [e] at P; exact P.elim
  | own _ => rw [e] at P; exact P.elim
  | dct _ => rw [e] at P; exact P.elim
  | ldk _ => rw [e] at P; exact P.elim
  | exc c dd =>
  rw [e] at P
  obtain ⟨v, e1, a', d', w, e2, e3, e4, e5⟩ := R.sl i _ e
  rw [ea] at e2
  simp only [Option.some.injEq, Prod.mk.injEq, Value.ref.injEq] at e2
  obtain ⟨rfl, ec, rfl⟩ := e2
  have hk := inj _ _ ec
  subst hk
  subst e3
  rw [eF] at e4
  refine attr_of (attrBase rfl f X.env _) (thn ((pe_var (X := X.suite a ((a, oe) :: pn)) h1 h2 h3 h4).run pins s σ H (fun u H1 => u = .ref a ∧ H1 = H) I ⟨_, e1, rfl, rfl⟩) fun u s1 hh => ?_)
  obtain ⟨xv, H1, I1, rx, ex, eH⟩ := hh
  subst ex; subst eH
  obtain rfl : u = Value.ref a := rx
  obtain ⟨ha, _⟩ := I1.pin (a, oe) (List.mem_append_left _ List.mem_cons_self)
  obtain ⟨vs, hd⟩ := hf
  have hx : ObjOk X.prog X.w H1 s1.heap d (.xd [(f, w)]) := I1.hok d _ e4
  obtain ⟨mA, hns, hr⟩ := hx
  obtain ⟨od, ho, hl⟩ := lookIn_ns hns
  have l : List.lookup f [(f, w)] = some w := by simp [List.lookup]
  obtain ⟨u, hu, ru⟩ := RelO.some_of (v := w) (o := mA f) (by rw [← l]; exact hr f)
  have J : PySem.W.InstAt s1.heap a oe (g.C k) (some od) := ⟨ha, hz.1, by unfold PySem.W.notCls; rw [hd] <;> rfl, by rw [hz.2]; exact ho⟩
  exact HandSPX.exc_get I1.kIn J T.ga T.gg T.exC (PySem.W.findObj_own T.hdC T.noN rfl (by rw [hl, hu])) (handed_of ru) ⟨w, H1, I1.tok _, ru, P w H1 Ext.refl R e5⟩
end PI

namespace PI
open PySem PySem.Spec PyProof.Rows L2
section
variable {g : G} {T : Tab} {Φ : Fns} {lv : Nat}
theorem both {X : Cx} {e : Expr} {W : WX} (hK : X.K = g.K) {f : S → Res RV} (h : PE X e (rdE g W f)) (hp : plainT e = true) : PE X e (rdE g W f) ∧ PT X e (rdT g W fun s => toT (toP (f s))) := ⟨h, pt_P hK (pe_P h) hp⟩
theorem Stay.id {K : PySem.W.Frag} {al : List Addr} {H H' : Hp} {d : D} {v : V} (x : Stay H H') (h : Rep K al H d v) : Rep K al H' d v := h.stay x fun _ _ z => z
/-- a constant -/
theorem cst_of {X : Cx} {d : D} {e : Expr} (h : cstB d e = true) : ∃ v, PE X e (tC v) ∧ ∀ al H, Rep g.K al H d v := by
  cases d <;> cases e <;> simp only [cstB] at h <;> try (cases h; done)
  all_goals (rename_i k _ _; cases k <;> (try simp only at h) <;> try (cases h; done))
  · exact ⟨_, pe_non, fun al H => by unfold Rep; rfl⟩
  · rw [beq_iff_eq] at h; subst h; exact ⟨_, pe_bl, fun al H => by unfold Rep; rfl⟩
  · rw [beq_iff_eq] at h; subst h; exact ⟨_, pe_int, fun al H => by unfold Rep; rfl⟩
  · rw [decide_eq_true_eq] at h; subst h; exact ⟨_, pe_str, fun al H => by unfold Rep; rfl⟩
mutual
theorem sE : ∀ (m : ME) (X : Cx) (c : Ctx) (W : WX) (e : Expr), XOk X g T Φ lv c W → chE T c m e = true → PE X e (rdE g W (ev Φ m)) ∧ PT X e (rdT g W fun s => toT (toP (ev Φ m s)))
  | .var i, X, c, W, e, O, h => by
    cases e <;> simp only [chE] at h <;> try (cases h; done)
    obtain ⟨h1, h2, h3, h4⟩ := O.nm h
    have : ev Φ (.var i) = fun s => slGet s i := by funext s; first | (simp only [ev]; done) | (simp only [ev]; rfl)
    rw [this]
    exact both O.K (pe_var' h1 h2 h3 h4) rfl
  | .cst d, X, c, W, e, O, h => by
    simp only [chE] at h
    have : ev Φ (.cst d) = fun s => .ok (.val d) s := by funext s; first | (simp only [ev]; done) | (simp only [ev]; rfl)
    rw [this]
    cases d <;> cases e <;> simp only [cstB] at h <;> try (cases h; done)
    all_goals (rename_i k _ _; cases k <;> (try simp only at h) <;> try (cases h; done))
    · exact both O.K (pe_cst pe_non fun al H => by unfold Rep; rfl) rfl
    · simp only [beq_iff_eq] at h
      subst h
      exact both O.K (pe_cst pe_bl fun al H => by unfold Rep; rfl) rfl
    · simp only [beq_iff_eq] at h
      subst h
      exact both O.K (pe_cst pe_int fun al H => by unfold Rep; rfl) rfl
    · simp only [decide_eq_true_eq] at h
      subst h
      exact both O.K (pe_cst pe_str fun al H => by unfold Rep; rfl) rfl
  | .glb x n, X, c, W, e, O, h => by
    cases e <;> simp only [chE] at h <;> try (cases h; done)
    simp only [Bool.and_eq_true, decide_eq_true_eq] at h
    obtain ⟨⟨rfl, h2⟩, h3⟩ := h
    obtain ⟨h4, h5⟩ := O.gl h2
    obtain ⟨t, h6⟩ := O.glb _ _ h3
    have : ev Φ (.glb x n) = fun s => .ok (.val (.int n)) s := by funext s; first | (simp only [ev]; done) | (simp only [ev]; rfl)
    rw [this]
    exact both O.K (pe_cst (pe_glob h4 h6 (v := .int n) ⟨t, rfl⟩ h5) fun al H => by unfold Rep; rfl) rfl
  | .tup es, X, c, W, e, O, h => by
    cases e <;> simp only [chE] at h <;> try (cases h; done)
    simp only [Bool.and_eq_true, decide_eq_true_eq] at h
    have : ev Φ (.tup es) = fun s => (evs Φ false es s).bind fun ds s => .ok (.val (.tup ds)) s := by funext s; first | (simp only [ev]; done) | (simp only [ev]; rfl)
    rw [this]
    exact both O.K (pe_tup' (sEs es false X c W _ O h.1) h.2 (evs_len Φ false T c es _ h.1)) rfl
  | .lst es, X, c, W, e, O, h => by
    cases e <;> simp only [chE] at h <;> try (cases h; done)
    simp only [Bool.and_eq_true, decide_eq_true_eq] at h
    have : ev Φ (.lst es) = fun s => (evs Φ false es s).bind fun ds s => .ok (.own ds) s := by funext s; first | (simp only [ev]; done) | (simp only [ev]; rfl)
    rw [this]
    exact both O.K (pe_lst' (sEs es false X c W _ O h.1) h.2 (evs_len Φ false T c es _ h.1)) rfl
  | .bin o a b, X, c, W, e, O, h => by
    cases e <;> simp only [chE] at h <;> try (cases h; done)
    simp only [Bool.and_eq_true, decide_eq_true_eq] at h
    obtain ⟨⟨rfl, h2⟩, h3⟩ := h
    have : ev Φ (.bin o a b) = fun s => (toP (ev Φ a s)).bind fun x s => (toP (ev Φ b s)).bind fun y s => ofO (binD o x y) s := by funext s; first | (simp only [ev]; done) | (simp only [ev]; rfl)
    rw [this]
    exact both O.K (pe_bin O.K (pe_P (sE a X c W _ O h2).1) (pe_P (sE b X c W _ O h3).1)) rfl
  | .neg a, X, c, W, e, O, h => by
    cases e <;> simp only [chE] at h <;> try (cases h; done)
    rename_i op x p
    cases op <;> (try simp only at h) <;> try (cases h; done)
    have : ev Φ (.neg a) = fun s => (toI (toP (ev Φ a s))).bind fun i s => .ok (.val (.int (-i))) s := by funext s; first | (simp only [ev]; done) | (simp only [ev]; rfl)
    rw [this]
    exact both O.K (pe_neg (pe_P (sE a X c W _ O h).1)) rfl
  | .not a, X, c, W, e, O, h => by
    cases e <;> simp only [chE] at h <;> try (cases h; done)
    rename_i op x p
    cases op <;> (try simp only at h) <;> try (cases h; done)
    have : ev Φ (.not a) = fun s => (toB (toP (ev Φ a s))).bind fun i s => .ok (.val (.bl (!i))) s := by funext s; first | (simp only [ev]; done) | (simp only [ev]; rfl)
    rw [this]
    obtain ⟨h1, h2⟩ := sE a X c W _ O h
    exact ⟨pe_not' (pe_P h1), pt_not' (rdT_toB h2)⟩
  | .bop k es, X, c, W, e, O, h => by
    cases e <;> simp only [chE] at h <;> try (cases h; done)
    simp only [Bool.and_eq_true, decide_eq_true_eq] at h
    obtain ⟨rfl, h2⟩ := h
    have : ev Φ (.bop k es) = fun s => (evB Φ k es s).bind fun c s => .ok (.val (.bl c)) s := by funext s; first | (simp only [ev]; done) | (simp only [ev]; rfl)
    rw [this]
    obtain ⟨h3, h4⟩ := sB es k X c W _ O h2
    exact ⟨pe_B (h3 _), pt_bop (h4 _)⟩
  | .cmp a cs, X, c, W, e, O, h => by
    cases e <;> simp only [chE] at h <;> try (cases h; done)
    rename_i x ops ys p
    cases ops <;> (try simp only at h) <;> try (cases h; done)
    cases ys <;> (try simp only at h) <;> try (cases h; done)
    simp only [Bool.and_eq_true, decide_eq_true_eq, Bool.not_eq_true'] at h
    obtain ⟨⟨⟨h1, h2⟩, h3⟩, h4⟩ := h
    have : ev Φ (.cmp a cs) = fun s => (toP (ev Φ a s)).bind fun x s => (evC Φ x cs s).bind fun b s => .ok (.val (.bl b)) s := by funext s; first | (simp only [ev]; done) | (simp only [ev]; rfl)
    rw [this]
    exact pe_cmp' (k := fun x s => evC Φ x cs s) (sC cs X c W _ _ O h2) (pe_P (sE a X c W _ O h1).1) h3 h4
  | .call f es, X, c, W, e, O, h => by
    cases e <;> simp only [chE] at h <;> try (cases h; done)
    rename_i fn args kw p
    cases fn <;> (try simp only at h) <;> try (cases h; done)
    cases args <;> (try simp only at h) <;> try (cases h; done)
    cases kw <;> (try simp only at h) <;> try (cases h; done)
    simp only [Bool.and_eq_true, decide_eq_true_eq] at h
    obtain ⟨⟨⟨⟨h1, rfl⟩, h3⟩, h4⟩, h5⟩ := h
    obtain ⟨h6, h7⟩ := O.gl h3
    obtain ⟨a, fd, ps, k1, k2, k3, k4, k5⟩ := O.fn _ _ h5
    rw [← k1] at k4
    have : ∀ x, ev Φ (.call x es) = fun s => (evs Φ false es s).bind fun ds s => match Φ x ds s.h with
      | .ok (.val d) h => .ok (.val d) { s with h := h }
      | .ok (.own l) h => .ok (.own l) { s with h := h }
      | .ok (.dct l) h => .ok (.dct l) { s with h := h }
      | .exc c d h => .exc c d { s with h := h }
      | _ => .bad := by intro x; funext s; first | (simp only [ev]; done) | (simp only [ev]; rfl)
    rw [this]
    exact both O.K (pe_call' k4 (O.calm h1).2 h6 k2 k3 k5 O.tk (sEs es false X c W _ O h4) (stars_of T c es _ h4) k1.symm (evs_len Φ false T c es _ h4) h7) rfl
  | .blt f es, X, c, W, e, O, h => by
    unfold chE at h
    split at h
    · simp only [Bool.and_eq_true, decide_eq_true_eq] at h
      obtain ⟨⟨⟨⟨h1, rfl⟩, h3⟩, h4⟩, h5⟩ := h
      obtain ⟨h6, h7⟩ := O.gl h4
      have : ev Φ (.blt f es) = fun s => (evs Φ true es s).bind fun ds s => ofO (bltD f ds) s := by funext s; first | (simp only [ev]; done) | (simp only [ev]; rfl)
      rw [this]
      exact both O.K (pe_blt h3 O.K (O.calm h1).1 O.units h6 (O.blt _ (by cases f <;> first | exact absurd rfl h3 | decide)) (sEs es true X c W _ O h5) (stars_of T c es _ h5)) rfl
    · cases es with
      | nil => cases h
      | cons e1 es =>
        cases es with
        | cons _ _ => cases h
        | nil =>
          simp only [Bool.and_eq_true, decide_eq_true_eq] at h
          obtain ⟨⟨⟨⟨rfl, rfl⟩, h3⟩, h4⟩, h5⟩ := h
          have : ev Φ (.blt .bits (.cons e1 .nil)) = fun s => ((toP (ev Φ e1 s)).bind fun d s => .ok [d] s).bind fun ds s => ofO (bltD .bits ds) s := by
            funext s
            simp only [ev, evs, if_true]
            cases toP (ev Φ e1 s) <;> rfl
          rw [this]
          exact both O.K (pe_bits' (pe_P (sE e1 X c W _ O h3).1) (attrBase h4 _ _ _) h5) rfl
    · cases h
  | .isi a t, X, c, W, e, O, h => by
    cases e <;> simp only [chE] at h <;> try (cases h; done)
    split at h <;> try (cases h; done)
    rename_i h1
    simp only [Bool.and_eq_true, decide_eq_true_eq] at h
    obtain ⟨⟨⟨⟨⟨rfl, rfl⟩, h3⟩, h4⟩, h5⟩, h6⟩ := h
    obtain ⟨k1, _⟩ := O.gl h3
    obtain ⟨k2, _⟩ := O.gl h4
    cases h1
    have : ev Φ (.isi a t) = fun s => (toP (ev Φ a s)).bind fun x s => match isTy t x with | some b => .ok (.val (.bl b)) s | none => .bad := by funext s; first | (simp only [ev]; done) | (simp only [ev]; rfl)
    rw [this]
    exact both O.K (pe_isi O.K (pe_P (sE a X c W _ O h6).1) h5 k1 (O.blt _ (by decide)) k2 (O.blt _ (by cases t <;> decide))) rfl
  | .idx a b, X, c, W, e, O, h => by
    cases e <;> simp only [chE] at h <;> try (cases h; done)
    simp only [Bool.and_eq_true] at h
    obtain ⟨⟨h1, h2⟩, h3⟩ := h
    have : ev Φ (.idx a b) = fun s => (toP (ev Φ a s)).bind fun x s => (toP (ev Φ b s)).bind fun y s => match idxD s x y with | some d => .ok (.val d) s | none => .bad := by funext s; first | (simp only [ev]; done) | (simp only [ev]; rfl)
    rw [this]
    exact both O.K (pe_idx O.K (pe_P (sE a X c W _ O h1).1) (pe_P (sE b X c W _ O h2).1) (plainIx_of (by revert h3; unfold notSlice; exact _root_.id))) rfl
  | .slc a lo hi, X, c, W, e, O, h => by
    cases e <;> simp only [chE] at h <;> try (cases h; done)
    rename_i x sl p
    cases sl <;> (try simp only at h) <;> try (cases h; done)
    rename_i l u st p2
    cases st <;> (try simp only at h) <;> try (cases h; done)
    simp only [Bool.and_eq_true] at h
    obtain ⟨⟨h1, h2⟩, h3⟩ := h
    have : ev Φ (.slc a lo hi) = fun s => (toP (ev Φ a s)).bind fun x s => (evO Φ lo s).bind fun l s => (evO Φ hi s).bind fun u s => match x with
      | .tup ds => .ok (.val (.tup (cutD ds l u))) s
      | .lst ds => .ok (.own (cutD ds l u)) s
      | _ => .bad := by funext s; first | (simp only [ev]; done) | (simp only [ev]; rfl)
    rw [this]
    exact both O.K (pe_slc O.K (pe_P (sE a X c W _ O h1).1) (sO lo X c W _ O h2) (sO hi X c W _ O h3)) rfl
  | .rev a, X, c, W, e, O, h => by
    unfold chE at h
    split at h
    · rw [Bool.and_eq_true, decide_eq_true_eq] at h
      obtain ⟨rfl, h⟩ := h
      have : ev Φ (.rev a) = fun s => (toP (ev Φ a s)).bind fun x s => match x with
        | .tup ds => .ok (.val (.tup ds.reverse)) s
        | .lst ds => .ok (.own ds.reverse) s
        | _ => .bad := by funext s; first | (simp only [ev]; done) | (simp only [ev]; rfl)
      rw [this]
      exact both O.K (pe_rev O.K (pe_P (sE a X c W _ O h).1)) rfl
    · cases h
  | .dct0, X, c, W, e, O, h => by
    unfold chE at h
    split at h
    · have : ev Φ .dct0 = fun s => .ok (.dct []) s := by funext s; rw [ev]
      rw [this]
      exact both O.K pe_dct0' rfl
    · cases h
  | .dct1 q d, X, c, W, e, O, h => by
    unfold chE at h
    split at h
    · rename_i ke ve pos
      rw [Bool.and_eq_true] at h
      obtain ⟨h1, h2⟩ := h
      have : ev Φ (.dct1 q d) = fun s => .ok (.dct [(q, d)]) s := by funext s; rw [ev]
      rw [this]
      obtain ⟨v, hv, _⟩ := cst_of (X := X) (g := g) h2
      obtain ⟨k, hk, rk⟩ := cst_of (X := X) (g := g) h1
      have ek : k = kV q := by
        have := rk [] fun _ => none
        cases q <;> (unfold keyD Rep at this; exact this)
      subst ek
      exact both O.K (pe_dct1' hk hv (by assumption)) rfl
    · cases h
  | .din n a x, X, c, W, e, O, h => by
    unfold chE at h
    split at h
    · simp only [Bool.and_eq_true, decide_eq_true_eq, Bool.not_eq_true'] at h
      obtain ⟨⟨⟨rfl, h2⟩, h3⟩, h4⟩ := h
      have : ev Φ (.din n a x) = fun s => (toP (ev Φ a s)).bind fun q s => (ev Φ x s).bind fun r s => match keyOf q, dctAt r s with
        | some q, some kvs => .ok (.val (.bl (if n then !(kget kvs q).isSome else (kget kvs q).isSome))) s
        | _, _ => .bad := by funext s; rw [ev] <;> rfl
      rw [this]
      exact pe_din' (by have := O.units; omega) (sE a X c W _ O h2).1 (sE x X c W _ O h3).1 h4
    · cases h
  | .dix x k, X, c, W, e, O, h => by
    unfold chE at h
    split at h
    · simp only [Bool.and_eq_true] at h
      obtain ⟨⟨h1, h2⟩, h3⟩ := h
      have : ev Φ (.dix x k) = fun s => (ev Φ x s).bind fun r s => (toP (ev Φ k s)).bind fun q s => match keyOf q, dctAt r s with
        | some q, some kvs => (match kget kvs q with | some d => .ok (.val d) s | none => .bad)
        | _, _ => .bad := by funext s; rw [ev] <;> rfl
      rw [this]
      refine both O.K (pe_dix' (by have := O.units; omega) (sE x X c W _ O h1).1 (sE k X c W _ O h2).1 ?_) rfl
      rename_i i _
      intro ov iv
      cases i <;> first | rfl | (cases h3)
    · cases h
  | .dgt x k d, X, c, W, e, O, h => by
    unfold chE at h
    split at h
    · simp only [Bool.and_eq_true, decide_eq_true_eq] at h
      obtain ⟨⟨⟨⟨⟨⟨⟨rfl, h1⟩, h2⟩, h3⟩, h4⟩, h5⟩, h6⟩, h7⟩ := h
      have : ev Φ (.dgt x k d) = fun s => (ev Φ x s).bind fun r s => match dctAt r s with
        | none => .bad
        | some _ => (toP (ev Φ k s)).bind fun q s => (toV (ev Φ d s)).bind fun d s => match keyOf q, dctAt r s with
          | some q, some kvs => .ok (.val ((kget kvs q).getD d)) s
          | _, _ => .bad := by funext s; rw [ev] <;> rfl
      rw [this]
      refine both O.K (pe_dgt' (by have := O.units; omega) (sE x X c W _ O h1).1 (sE k X c W _ O h2).1 (sE d X c W _ O h3).1 ⟨attrBase h4 _ _ _, ?_, h7, ?_⟩) rfl
      · rw [star_cons h5, star_cons h6] <;> rfl
      · rw [star_cons h5, star_cons h6] <;> rfl
    · cases h
  | .sset a, X, c, W, e, O, h => by
    unfold chE at h
    split at h
    · simp only [Bool.and_eq_true, decide_eq_true_eq] at h
      obtain ⟨⟨⟨⟨⟨⟨h1, rfl⟩, rfl⟩, h2⟩, h3⟩, h4⟩, h5⟩ := h
      have : ev Φ (.sset a) = fun s => (toP (ev Φ a s)).bind fun x s => match x with
        | .lst ds => (match intsOf ds with | some ns => if ns.length < 60 then .ok (.own ((sortD (once ns)).map D.int)) s else .bad | none => .bad)
        | _ => .bad := by funext s; rw [ev] <;> rfl
      rw [this]
      exact both O.K (pe_sset' O.K (O.calm h1).1 (O.gl h2).1 (O.blt _ (by decide)) (O.gl h3).1 (O.blt _ (by decide)) h4 (sE a X c W _ O h5).1) rfl
    · cases h
  | .lrng a, X, c, W, e, O, h => by
    unfold chE at h
    split at h
    · simp only [Bool.and_eq_true, decide_eq_true_eq] at h
      obtain ⟨⟨⟨⟨⟨⟨h1, rfl⟩, rfl⟩, h2⟩, h3⟩, h4⟩, h5⟩ := h
      have : ev Φ (.lrng a) = fun s => (toI (toP (ev Φ a s))).bind fun i s => if decide (i ≤ 1000000) && decide (-1000000 ≤ i) then .ok (.own (rangeD 0 i.toNat)) s else .bad := by funext s; rw [ev]
      rw [this]
      exact both O.K (pe_lrng' (O.calm h1).1 (O.gl h2).1 (O.blt _ (by decide)) (O.gl h3).1 (O.blt _ (by decide)) h4 (sE a X c W _ O h5).1) rfl
    · cases h
  | .trng a b, X, c, W, e, O, h => by
    unfold chE at h
    split at h
    · simp only [Bool.and_eq_true, decide_eq_true_eq] at h
      obtain ⟨⟨⟨⟨⟨⟨⟨⟨h1, rfl⟩, rfl⟩, h2⟩, h3⟩, h4⟩, h4'⟩, h5⟩, h6⟩ := h
      have : ev Φ (.trng a b) = fun s => (toI (toP (ev Φ a s))).bind fun i s => (toI (toP (ev Φ b s))).bind fun j s => if (decide (i ≤ 1000000) && decide (-1000000 ≤ i)) && (decide (j ≤ 1000000) && decide (-1000000 ≤ j)) then .ok (.val (.tup (rangeD i (j - i).toNat))) s else .bad := by funext s; rw [ev]
      rw [this]
      exact both O.K (pe_trng' (O.calm h1).1 (O.gl h2).1 (O.blt _ (by decide)) (O.gl h3).1 (O.blt _ (by decide)) h4 h4' (sE a X c W _ O h5).1 (sE b X c W _ O h6).1) rfl
    · cases h
  | .lc elt tg it cond, X, c, W, e, O, h => by
    unfold chE at h
    split at h
    · rename_i y t i ifs k scope pos
      simp only [Bool.and_eq_true, decide_eq_true_eq] at h
      obtain ⟨⟨⟨⟨⟨⟨⟨⟨k1, rfl⟩, k2⟩, k3⟩, k4⟩, k5⟩, k6⟩, k7⟩, k8⟩ := h
      have hc := (O.calm k1).1
      have ok : BlkOk X.N X.env.scope scope (ownOf tg t) := by rw [O.N, O.sc]; exact blkOk_by k3
      have hi := sI it X c W t i O k1 k5
      have e1 : ev Φ (.lc elt tg it cond) = fun s => (evI Φ it s).bind fun items s => match lcGo (lcTurn tg (evCond Φ cond) (fun s => toV (ev Φ elt s))) [] items s with
        | .ok ds s1 => .ok (.own ds) { s1 with t := backT s1.t s.t tg.ids }
        | _ => .bad := by
          funext s
          rw [ev]
          rfl
      rw [e1]
      refine both O.K ((pe_lc (g := gtOf X.K tg) hc O.nd hi ok (fun s H C cl fp => tg_pg (X := X.blk s H scope (compEnvC scope cl C X.env) fp) O.nd (O.tgK k1 k2 s H C cl fp)) (fun s H C cl fp => sCond cond _ _ W0 _ (O.blk k1 s H scope C cl fp) k7)
        (fun s H C cl fp => pe_V (sE elt _ _ W0 _ (O.blk k1 s H scope C cl fp) k8).1) (fun x => foldedSet k6 _ x)).mono ?_) rfl
      exact pe_lc' (pos := pos) hc O.nd hi ok k4 (gtOf X.K tg) (fun s H C cl fp => tg_pg (X := X.blk s H scope (compEnvC scope cl C X.env) fp) O.nd (O.tgK k1 k2 s H C cl fp)) (fun b al s σ H d x s2 Q R r e q => tg_run O.K tg b al s σ H d x s2 Q R r e q)
        (fun s H C cl fp => sCond cond _ _ W0 _ (O.blk k1 s H scope C cl fp) k7) (fun s H C cl fp => pe_V (sE elt _ _ W0 _ (O.blk k1 s H scope C cl fp) k8).1) (fun x => foldedSet k6 _ x) rfl
    · cases h
  | .lc2 elt tg it cond tg1 it1 cond1, X, c, W, e, O, h => by
    unfold chE at h
    split at h
    · rename_i y t i ifs k t1 i1 ifs1 kk scope pos
      simp only [Bool.and_eq_true, decide_eq_true_eq] at h
      obtain ⟨⟨⟨⟨⟨⟨⟨⟨⟨⟨⟨⟨⟨k1, rfl⟩, rfl⟩, k2⟩, k2'⟩, k3⟩, k4⟩, k5⟩, k6⟩, k7⟩, k8⟩, k9⟩, k10⟩, k11⟩ := h
      have hc := (O.calm k1).1
      have ok : BlkOk X.N X.env.scope scope (ownOf tg t ++ ownOf tg1 t1) := by rw [O.N, O.sc]; exact blkOk_by k3
      have hi := sI it X c W t i O k1 k5
      have e1 : ev Φ (.lc2 elt tg it cond tg1 it1 cond1) = fun s => (evI Φ it s).bind fun items s => match lcGo2 (lcTurn2 (tg.ids ++ tg1.ids) tg (evCond Φ cond) (evI Φ it1)) (lcTurn tg1 (evCond Φ cond1) (fun s => toV (ev Φ elt s))) [] items s with
        | .ok ds s1 => .ok (.own ds) { s1 with t := backT s1.t s.t (tg.ids ++ tg1.ids) }
        | _ => .bad := by
          funext s
          rw [ev]
          rfl
      rw [e1]
      refine both O.K ((pe_lc2 (vs1 := tg1.ids) (g := gtOf X.K tg) (g1 := gtOf X.K tg1) hc O.nd hi ok (fun i hi => by rw [k4]; exact List.mem_append_right _ hi)
        (fun s H C cl fp => tg_pg (X := X.blk s H scope (compEnvC scope cl C X.env) fp) O.nd (O.tgK k1 k2 s H C cl fp)) (fun s H C cl fp => sCond cond _ _ W0 _ (O.blk k1 s H scope C cl fp) k7)
        (fun s H C cl fp => sI it1 _ _ W0 _ _ (O.blk k1 s H scope C cl fp) rfl k8)
        (fun s H C cl fp => tg_pg (X := X.blk s H scope (compEnvC scope cl C X.env) fp) O.nd (O.tgK k1 k2' s H C cl fp)) (fun s H C cl fp => sCond cond1 _ _ W0 _ (O.blk k1 s H scope C cl fp) k10)
        (fun s H C cl fp => pe_V (sE elt _ _ W0 _ (O.blk k1 s H scope C cl fp) k11).1) (fun x => foldedSet k6 _ x) (fun env x => foldedSet k9 env x)).mono ?_) rfl
      exact pe_lc2' k4 (gtOf X.K tg) (gtOf X.K tg1) (fun b al s σ H d x s2 Q R r e q => tg_run O.K tg b al s σ H d x s2 Q R r e q) (fun b al s σ H d x s2 Q R r e q => tg_run O.K tg1 b al s σ H d x s2 Q R r e q) rfl
    · cases h
  | .fld i, X, c, W, e, O, h => by
    cases e <;> simp only [chE] at h <;> try (cases h; done)
    rename_i b f p
    cases b <;> (try simp only at h) <;> try (cases h; done)
    rename_i x q
    rw [Bool.and_eq_true] at h
    obtain ⟨h1, h2⟩ := h
    cases q : c.ex with
    | none => rw [q] at h2; cases h2
    | some jf =>
      obtain ⟨j, f'⟩ := jf
      rw [q] at h2
      simp only [Bool.and_eq_true, decide_eq_true_eq] at h2
      obtain ⟨rfl, rfl⟩ := h2
      obtain ⟨k1, k2, k3, k4⟩ := O.nm h1
      obtain ⟨X', a, oe, pn, k, d, rfl, hz, hf, ea, eF, fo⟩ := O.ex _ _ q
      have : ev Φ (.fld i) = fun s => match s.t[i]? with
        | some (some (.exc _ d)) => .ok (.val d) s
        | _ => .bad := by funext s; first | (simp only [ev]; done) | (simp only [ev]; rfl)
      rw [this]
      exact both O.K (pe_fld' k1 k2 k3 k4 hz hf ea eF O.inj fo) rfl
  | .isx i k, X, c, W, e, O, h => by simp [chE] at h
theorem sEs : ∀ (ms : MEs) (pk : Bool) (X : Cx) (c : Ctx) (W : WX) (es : List Expr), XOk X g T Φ lv c W → chEs T c ms es = true → PA X es (rdA g W pk (evs Φ pk ms))
  | .nil, pk, X, c, W, es, O, h => by
    cases es with
    | cons _ _ => simp [chEs] at h
    | nil =>
      have : evs Φ pk .nil = fun s => .ok [] s := by funext s; first | (simp only [evs]; done) | (simp only [evs]; rfl)
      rw [this]
      exact pa_nil'
  | .cons m ms, pk, X, c, W, es, O, h => by
    cases es with
    | nil => simp [chEs] at h
    | cons e es =>
      simp only [chEs, Bool.and_eq_true] at h
      have : evs Φ pk (.cons m ms) = fun s => ((fun s => if pk then toP (ev Φ m s) else toV (ev Φ m s)) s).bind fun d s => (evs Φ pk ms s).bind fun ds s => .ok (d :: ds) s := by funext s; first | (simp only [evs]; done) | (simp only [evs]; rfl)
      rw [this]
      refine pa_cons' h.1.1 ?_ (sEs ms pk X c W es O h.2)
      cases pk with
      | true => exact pe_P (sE m X c W e O h.1.2).1
      | false => exact pe_V (sE m X c W e O h.1.2).1
theorem sB : ∀ (ms : MEs) (k : Bool) (X : Cx) (c : Ctx) (W : WX) (es : List Expr), XOk X g T Φ lv c W → chB T c ms es = true →
    (∀ pos, PE X (.BoolOp (if k then .And else .Or) es pos) (rdB g W (evB Φ k ms))) ∧ ∀ pos, PW X (.BoolOp (if k then .And else .Or) es pos) (rdT g W (evB Φ k ms))
  | .nil, k, X, c, W, es, O, h => by simp [chB] at h
  | .cons m .nil, k, X, c, W, es, O, h => by
    cases es with
    | nil => simp [chB] at h
    | cons e es =>
      cases es with
      | cons _ _ => simp [chB] at h
      | nil =>
        simp only [chB] at h
        obtain ⟨h1, h2⟩ := sE m X c W e O h
        have : evB Φ k (.cons m .nil) = fun s => toB (toP (ev Φ m s)) := by
          funext s
          simp only [evB]
          cases toB (toP (ev Φ m s)) <;> rfl
        rw [this]
        exact ⟨fun pos => peB_one (pe_toB (pe_P h1)), fun pos => pw_one (by cases k <;> simp) (rdT_toB h2)⟩
  | .cons m (.cons m2 ms), k, X, c, W, es, O, h => by
    cases es with
    | nil => simp [chB] at h
    | cons e es =>
      cases es with
      | nil => simp [chB] at h
      | cons e2 es =>
        simp only [chB, Bool.and_eq_true] at h
        obtain ⟨h1, h2⟩ := sE m X c W e O h.1
        obtain ⟨h3, h4⟩ := sB (.cons m2 ms) k X c W (e2 :: es) O h.2
        have : evB Φ k (.cons m (.cons m2 ms)) = fun s => (toB (toP (ev Φ m s))).bind fun b s => if b = k then evB Φ k (.cons m2 ms) s else .ok b s := by
          funext s
          rw [evB]
        rw [this]
        exact ⟨fun pos => peB_two (pe_toB (pe_P h1)) (h3 pos), fun pos => pw_two (rdT_toB h2) (h4 pos)⟩
theorem sC : ∀ (ms : MCs) (X : Cx) (c : Ctx) (W : WX) (ops : List CmpOp) (es : List Expr), XOk X g T Φ lv c W → chC T c ms ops es = true → CH X g W ops es (fun x s => evC Φ x ms s)
  | .nil, X, c, W, ops, es, O, h => by simp [chC] at h
  | .cons o m .nil, X, c, W, ops, es, O, h => by
    match ops, es, h with
    | [op], [e], h =>
      simp only [chC, Bool.and_eq_true, decide_eq_true_eq] at h
      obtain ⟨rfl, h2⟩ := h
      have : (fun x s => evC Φ x (.cons o m .nil) s) = fun x s => (toP (ev Φ m s)).bind fun y s => match cmpD o x y with | none => .bad | some c => .ok c s := by
        funext x s
        rw [evC] <;> rfl
      rw [this]
      exact ch_one O.K O.units (pe_P (sE m X c W _ O h2).1)
    | [], _, h => simp [chC] at h
    | [op], [], h => simp [chC] at h
    | [op], _ :: _ :: _, h => simp [chC] at h
    | _ :: _ :: _, _, h => simp [chC] at h
  | .cons o m (.cons o2 m2 r), X, c, W, ops, es, O, h => by
    match ops, es, h with
    | op :: op2 :: ops, e :: e2 :: es, h =>
      rw [chC] at h
      simp only [Bool.and_eq_true, decide_eq_true_eq] at h
      obtain ⟨⟨rfl, h2⟩, h3⟩ := h
      have : (fun x s => evC Φ x (.cons o m (.cons o2 m2 r)) s) = fun x s => (toP (ev Φ m s)).bind fun y s => match cmpD o x y with | none => .bad | some c => if c then (fun x s => evC Φ x (.cons o2 m2 r) s) y s else .ok false s := by
        funext x s
        rw [evC] <;> rfl
      rw [this]
      exact ch_more O.K O.units (pe_P (sE m X c W _ O h2).1) (sC (.cons o2 m2 r) X c W _ _ O h3)
    | [], _, h => simp [chC] at h
    | [_], _, h => simp [chC] at h
    | _ :: _ :: _, [], h => simp [chC] at h
    | _ :: _ :: _, [_], h => simp [chC] at h
theorem sO : ∀ (m : MO) (X : Cx) (c : Ctx) (W : WX) (o : Option Expr), XOk X g T Φ lv c W → chO T c m o = true → PO X o (rdO g W (evO Φ m))
  | .none, X, c, W, o, O, h => by
    cases o with
    | some _ => simp [chO] at h
    | none =>
      have : evO Φ .none = fun s => .ok none s := by funext s; first | (simp only [evO]; done) | (simp only [evO]; rfl)
      rw [this]
      exact po_none'
  | .some m, X, c, W, o, O, h => by
    cases o with
    | none => simp [chO] at h
    | some e =>
      simp only [chO] at h
      have : evO Φ (.some m) = fun s => (toI (toP (ev Φ m s))).bind fun i s => .ok (some i) s := by funext s; first | (simp only [evO]; done) | (simp only [evO]; rfl)
      rw [this]
      exact po_some' (pe_P (sE m X c W e O h).1)
theorem sCond : ∀ (m : MO) (X : Cx) (c : Ctx) (W : WX) (es : List Expr), XOk X g T Φ lv c W → chCond T c m es = true → PTs X es (rdT g W (evCond Φ m))
  | .none, X, c, W, es, O, h => by
    cases es with
    | cons _ _ => simp [chCond] at h
    | nil =>
      have : evCond Φ .none = fun s => .ok true s := by funext s; first | (simp only [evCond]; done) | (simp only [evCond]; rfl)
      rw [this]
      exact ⟨fun pins s σ H Q I ⟨b, al, t, R, P⟩ => pts_nil.run pins s σ H Q I (P H Ext.refl R)⟩
  | .some m, X, c, W, es, O, h => by
    cases es with
    | nil => simp [chCond] at h
    | cons e es =>
      cases es with
      | cons _ _ => simp [chCond] at h
      | nil =>
        simp only [chCond] at h
        have : evCond Φ (.some m) = fun s => toT (toP (ev Φ m s)) := by funext s; first | (simp only [evCond]; done) | (simp only [evCond]; rfl)
        rw [this]
        exact pts_one (sE m X c W e O h).2
theorem sI : ∀ (m : MI) (X : Cx) (c : Ctx) (W : WX) (t e : Expr), XOk X g T Φ lv c W → c.calm = true → chI T c m t e = true → L2.PI X t e (rdI g W (evI Φ m))
  | .seq m, X, c, W, t, e, O, hc, h => by
    simp only [chI] at h
    have : evI Φ (.seq m) = fun s => toL (toV (ev Φ m s)) := by funext s; first | (simp only [evI]; done) | (simp only [evI]; rfl)
    rw [this]
    exact pi_seq O.K (pe_V (sE m X c W e O h).1)
  | .rng1 m, X, c, W, t, e, O, hc, h => by
    simp only [chI] at h
    split at h <;> try (cases h; done)
    simp only [Bool.and_eq_true, decide_eq_true_eq] at h
    obtain ⟨⟨⟨rfl, h2⟩, h3⟩, h4⟩ := h
    have : evI Φ (.rng1 m) = fun s => (toI (toP (ev Φ m s))).bind fun i s => if smallI i then .ok (rangeD 0 i.toNat) s else .bad := by funext s; first | (simp only [evI]; done) | (simp only [evI]; rfl)
    rw [this]
    exact pi_rng1 h3 (O.gl h2).1 (O.blt _ (by decide)) (pe_P (sE m X c W _ O h4).1)
  | .rng2 m1 m2, X, c, W, t, e, O, hc, h => by
    simp only [chI] at h
    split at h <;> try (cases h; done)
    simp only [Bool.and_eq_true, decide_eq_true_eq] at h
    obtain ⟨⟨⟨⟨⟨rfl, h2⟩, h3⟩, h4⟩, h5⟩, h6⟩ := h
    have : evI Φ (.rng2 m1 m2) = fun s => (toI (toP (ev Φ m1 s))).bind fun i s => (toI (toP (ev Φ m2 s))).bind fun j s => if smallI i && smallI j then .ok (rangeD i (j - i).toNat) s else .bad := by funext s; first | (simp only [evI]; done) | (simp only [evI]; rfl)
    rw [this]
    exact pi_rng2 h3 h4 (O.gl h2).1 (O.blt _ (by decide)) (pe_P (sE m1 X c W _ O h5).1) (pe_P (sE m2 X c W _ O h6).1)
  | .rng3 m1 m2 m3, X, c, W, t, e, O, hc, h => by
    simp only [chI] at h
    split at h <;> try (cases h; done)
    simp only [Bool.and_eq_true, decide_eq_true_eq] at h
    obtain ⟨⟨⟨⟨⟨⟨⟨rfl, h2⟩, h3⟩, h4⟩, h5⟩, h6⟩, h7⟩, h8⟩ := h
    have : evI Φ (.rng3 m1 m2 m3) = fun s => (toI (toP (ev Φ m1 s))).bind fun i s => (toI (toP (ev Φ m2 s))).bind fun j s => (toI (toP (ev Φ m3 s))).bind fun k s =>
      if decide (k ≠ 0) && decide (k.natAbs < 1073741824) && Builtin.Range.small i j k then .ok (rangeC i k (turnsC i j k)) s else .bad := by funext s; first | (simp only [evI]; done) | (simp only [evI]; rfl)
    rw [this]
    exact pi_rng3 h3 h4 h5 (O.gl h2).1 (O.blt _ (by decide)) (pe_P (sE m1 X c W _ O h6).1) (pe_P (sE m2 X c W _ O h7).1) (pe_P (sE m3 X c W _ O h8).1)
  | .enum m, X, c, W, t, e, O, hc, h => by
    simp only [chI] at h
    split at h <;> try (cases h; done)
    simp only [Bool.and_eq_true, decide_eq_true_eq] at h
    obtain ⟨⟨⟨rfl, h2⟩, h3⟩, h4⟩ := h
    have : evI Φ (.enum m) = fun s => (toLL (toV (ev Φ m s))).bind fun ds s => .ok (enumD 0 ds) s := by funext s; first | (simp only [evI]; done) | (simp only [evI]; rfl)
    rw [this]
    exact pi_enum' O.K h3 (O.gl h2).1 (O.blt _ (by decide)) (pe_V (sE m X c W _ O h4).1)
  | .zip m1 m2, X, c, W, t, e, O, hc, h => by
    simp only [chI] at h
    split at h <;> try (cases h; done)
    simp only [Bool.and_eq_true, decide_eq_true_eq] at h
    obtain ⟨⟨⟨⟨⟨rfl, h2⟩, h3⟩, h4⟩, h5⟩, h6⟩ := h
    have : evI Φ (.zip m1 m2) = fun s => (toV (ev Φ m1 s)).bind fun x s => (toV (ev Φ m2 s)).bind fun y s => zipR x y s := by funext s; first | (simp only [evI]; done) | (simp only [evI]; rfl)
    rw [this]
    exact pi_zip' O.K h3 h4 (O.gl h2).1 (O.blt _ (by decide)) (pe_V (sE m1 X c W _ O h5).1) (pe_V (sE m2 X c W _ O h6).1)
  | .revd m, X, c, W, t, e, O, hc, h => by
    simp only [chI] at h
    split at h <;> try (cases h; done)
    simp only [Bool.and_eq_true, decide_eq_true_eq] at h
    obtain ⟨⟨⟨rfl, h2⟩, h3⟩, h4⟩ := h
    have : evI Φ (.revd m) = fun s => (toL (toV (ev Φ m s))).bind fun ds s => .ok ds.reverse s := by funext s; first | (simp only [evI]; done) | (simp only [evI]; rfl)
    rw [this]
    exact pi_revd O.K h3 (O.gl h2).1 (O.blt _ (by decide)) (pe_V (sE m X c W _ O h4).1)
end
end
end PI

namespace PI
open PySem PySem.Spec PyProof.Rows L2

/-! ### several except clauses, each with a name (after TryMany and ps_try_as) -/
def wManyA (K : PySem.W.Frag) (Wout : WX) (D : Ends) : List (Value × Nat × (Addr → Value → Option Addr → TS)) → WX
  | [] => Wout
  | (c, i, ts) :: r => fun cls d σ H => ∃ b, PySem.W.exmOne K cls c = some b ∧
      (b = true → ∀ a, H a = none → ts a cls d { nx := fun σ' H' => D.nx (σ'.set i none) H', rt := D.rt, bk := fun σ' H' => D.bk (σ'.set i none) H', ct := fun σ' H' => D.ct (σ'.set i none) H' } (σ.set i (some (.ref a))) H) ∧ (b = false → wManyA K Wout D r cls d σ H)
inductive HdsA (X : Cx) : List ExceptHandler → List (Value × Nat × (Addr → Value → Option Addr → TS)) → Prop
  | nil : HdsA X [] []
  | cons {x n : Str} {c : Value} {i : Nat} {ts : Addr → Value → Option Addr → TS} {b₀ : Stmt} {suite : List Stmt} {np pos' : Pos} {hds : List ExceptHandler} {l : List (Value × Nat × (Addr → Value → Option Addr → TS))} (hi : X.N[i]? = some n) (hln : X.env.kindOf n = some .local) (hc : Names X x c)
      (hsu : ∀ (a : Addr) (oe : Obj) (cls : Value) (d : Option Addr) (pn : List (Addr × Obj)), Zc cls d oe → (∃ vs, oe.data = .fields vs) → PSs (X.suite a ((a, oe) :: pn)) (b₀ :: suite) (ts a cls d)) (r : HdsA X hds l) :
      HdsA X (.ExceptHandler (some (.Name x np)) (some n) (b₀ :: suite) pos' :: hds) ((c, i, ts) :: l)
section
variable {X : Cx} {body : List Stmt} {h₀ : ExceptHandler} {hds : List ExceptHandler} {l : List (Value × Nat × (Addr → Value → Option Addr → TS))} {pos : Pos} {tb : WX → TS} {Wout : WX}
theorem ps_try_manyA (hs : X.stack = X.env :: X.outer) (hf : X.env.frame = some X.env.locals) (hN : X.N.Nodup) (tk : Takes X Wout)
    (hb : ∀ (W : WX) (pn : List (Addr × Obj)) (xe : Value → Shared → Prop), Takes (X.tr pn xe) W → PassesOwn (model X.prog X.w) X.A X.env xe → PSs (X.tr pn xe) body (tb W))
    (hh : HdsA X (h₀ :: hds) l) : PS X (.Try body (h₀ :: hds) [] [] pos) (fun D σ H => tb (wManyA X.K Wout D l) D σ H) := by
  refine ⟨fun pins s σ H D I h => ?_⟩
  have ok := I.ok
  have hfr : X.A.frames = some (X.env :: X.outer) := by rw [ok.frames, hs]
  refine wpAny_Try_except ?_
  refine wpAny_mono ((hb (wManyA X.K Wout D l) (X.pn ++ pins) (fun e s₁ => wpAny (model X.prog X.w) X.A (noteFrame e X.env) (fun _ s₂ => wpAny (model X.prog X.w) X.A (setFlight e none) (fun _ s₃ =>
    wpAny (model X.prog X.w) X.A (handleBy e X.env (h₀ :: hds)) (SP X pins D) X.xe s₃) X.xe s₂) X.xe s₁) (fun u s' xx => ?_) PassesOwn.looking).run [] s σ H D (I.toTry _) h) (fun f s1 hsp => ?_) (fun e s1 he => he)
  · -- the catch
    obtain ⟨a, B, sI, pins', σ', H', cls, d, rfl, J', nb, up, sky, na, os, ag, w⟩ := xx
    have J : Inv X pins σ' H' sI := J'.ofTry ok
    have sky' : Sky B (X.env :: X.outer) a (Zc cls d) X.env.locals s'.heap := by rw [← hs]; exact sky
    show wpAny (model X.prog X.w) X.A (noteFrame (.ref a) X.env) _ _ _
    refine Sky.land Zc.steady hfr hf sky' fun h3 fl3 up3 => ?_
    have J3 : Inv X pins σ' H' { s' with heap := h3 } := J.landed nb fl3.1 (up.trans up3) os ag
    obtain ⟨oe3, vs3, he3, hz3, hd3⟩ := fl3.there
    have notFr : ∀ {h : Heap} {o : Obj} {vs : Array Value}, h.FunFrames B (X.env :: X.outer) → h.get? a = some o → o.data = .fields vs → a ∉ frs (X.env :: X.outer) := fun {h o vs} ff e dd hm => by
      obtain ⟨_, o', e', hnf⟩ := ff.mem hm
      rw [e] at e'; cases e'
      exact hnf _ dd
    have nfr := notFr fl3.2.2.1 he3 hd3
    have nL : a ≠ X.env.locals := fun z => nfr (List.mem_filterMap.mpr ⟨X.env, List.mem_cons_self, by rw [hf, z]⟩)
    have nF : a ∉ X.fs := fun hm => by
      obtain ⟨e, he, q⟩ := List.mem_filterMap.mp hm
      exact nfr (List.mem_filterMap.mpr ⟨e, List.mem_cons_of_mem _ he, q⟩)
    have S3 := J3.suite he3 hd3 na nL nF
    have go : ∀ {hds' : List ExceptHandler} {l' : List (Value × Nat × (Addr → Value → Option Addr → TS))}, HdsA X hds' l' → wManyA X.K Wout D l' cls d σ' H' →
        wpAny (model X.prog X.w) X.A (handleBy (.ref a) X.env hds') (SP X pins D) X.xe { s' with heap := h3 } := by
      intro hds' l' hk
      induction hk with
      | nil =>
        intro w
        refine wpAny_handleBy_nil ?_
        obtain ⟨k1, k2, k3, oe, vs, T, oT, ts', he, hz, hd, h1, hr⟩ := id fl3
        unfold PySem.passOn
        refine wpAny_bind (wpAny_field he hd h1 ?_)
        rw [if_neg (show ¬ ((Value.ref T == Value.none) = true) from by simp)]
        have fin : wpAny (model X.prog X.w) X.A (setFlight (.ref a) X.env.frame) (fun _ s4 => wpAny (model X.prog X.w) X.A (throw (.ref a) : Sem Flow) (SP X pins D) X.xe s4) X.xe { s' with heap := h3 } := by
          rw [hf]
          refine HandSPX.setFlight_upZ fl3 fun h4 hh4 up4 => wpAny_throw (tk _ _ ?_)
          exact ⟨a, B, sI, pins, σ', H', cls, d, rfl, J, nb, (up.trans up3).trans up4, .inr (.inr (by rw [hs]; exact hh4)), na, os, ag, w⟩
        first
          | exact wpAny_bind (wpAny_pure (wpAny_bind fin))
          | exact wpAny_bind fin
      | @cons x n c i ts b₀ suite np pos' hds2 l2 hi hln hc hsu r ih =>
        intro w
        obtain ⟨b, hb1, hyes, hno⟩ := w
        have hloc : Loc X.env.scope n := .inl hln
        refine wpAny_handleBy_cons (codeAny_handlers_test ?_) (by intro q; cases q)
        have LT : PySem.W.Looks (model X.prog X.w) h3 (typeOf (.ref a)) cls := fun A Q E s k q => wpAny_typeOf_ref (k _ _ he3) (by rw [hz3.1]; exact q)
        have LM := PySem.W.exm_one (M := model X.prog X.w) (J3.kIn) LT hb1
        have test : ∀ {Q : Value → Shared → Prop} {E : Value → Shared → Prop}, Q c { s' with heap := h3 } → wpAny (model X.prog X.w) (X.A.mark (some (.ref a))) (eval (.Name x np) X.env) Q E { s' with heap := h3 } := fun {Q E} q => by
          obtain ⟨hg, hdbg, hm | ⟨hm, hv, hnn⟩⟩ := hc
          · exact ld_glob (X := X.suite a ((a, oe3) :: (X.pn ++ pins))) S3 hg hm q hdbg
          · exact ld_blt (X := X.suite a ((a, oe3) :: (X.pn ++ pins))) S3 hg hm hv q hnn hdbg
        refine test (LM.here ?_)
        cases b with
        | true =>
          refine codeAny_handlers_suite_as ?_
          refine HandSPX.lands_againZ fl3 fun h4 fl4 up4 => ?_
          have J4 : Inv X pins σ' H' { s' with heap := h4 } := J.landed nb fl4.1 ((up.trans up3).trans up4) os ag
          obtain ⟨oe4, vs4, he4, hz4, hd4⟩ := fl4.there
          have S4 := J4.suite he4 hd4 na nL nF
          refine store_ok (X := X.suite a ((a, oe4) :: (X.pn ++ pins))) (v := .ref a) S4 hN hi hloc rfl (fun s5 S5 => ?_) (.inr hln)
          refine wpAny_mono ((hsu a oe4 cls d (X.pn ++ pins) hz4 ⟨_, hd4⟩).run [] s5 _ H' _ S5 (hyes rfl a na)) (fun f s6 hsp => ?_) (fun _ _ z => False.elim z)
          have end_ : ∀ {σ6 : L2.St} {H6 : Hp} {Q : Shared → Prop}, Inv (X.suite a ((a, oe4) :: (X.pn ++ pins))) [] σ6 H6 s6 → (∀ s7, Inv X pins (σ6.set i none) H6 s7 → Q s7) →
              wpAny (model X.prog X.w) X.A (do bindName X.env n .none; unbindBehindTheSuite X.env n pos') (fun _ s7 => Q s7) X.xe s6 := fun {σ6 H6 Q} S6 hq => gone_ok (S6.unsuite ok) hN hi hln hq
          cases f with
          | next =>
            obtain ⟨σ6, H6, S6, q6⟩ := hsp
            exact end_ S6 fun s7 J7 => ⟨_, _, J7, q6⟩
          | brk =>
            obtain ⟨σ6, H6, S6, q6⟩ := hsp
            exact end_ S6 fun s7 J7 => ⟨_, _, J7, q6⟩
          | cont =>
            obtain ⟨σ6, H6, S6, q6⟩ := hsp
            exact end_ S6 fun s7 J7 => ⟨_, _, J7, q6⟩
          | ret u =>
            obtain ⟨v6, σ6, H6, S6, r6, q6⟩ := hsp
            exact end_ S6 fun s7 J7 => ⟨_, _, _, J7, r6, q6⟩
        | false =>
          show wpAny _ X.A (handleBy (.ref a) X.env hds2) _ _ _
          exact ih (hno rfl)
    exact go hh w
  · cases f with
    | next =>
      obtain ⟨σ', H', J', q⟩ := hsp
      exact wpAny_execs_nil ⟨σ', H', J'.ofTry ok, q⟩
    | brk =>
      obtain ⟨σ', H', J', q⟩ := hsp
      exact ⟨σ', H', J'.ofTry ok, q⟩
    | cont =>
      obtain ⟨σ', H', J', q⟩ := hsp
      exact ⟨σ', H', J'.ofTry ok, q⟩
    | ret u =>
      obtain ⟨v, σ', H', J', r, q⟩ := hsp
      exact ⟨v, σ', H', J'.ofTry ok, r, q⟩
end

/-! ### statements: what follows -/
def AlX (al al' : List Addr) : Prop := ∀ (k : Nat) (a : Addr), al[k]? = some a → al'[k]? = some a
theorem AlX.refl (al : List Addr) : AlX al al := fun _ _ h => h
theorem AlX.trans {a b c : List Addr} (h : AlX a b) (k : AlX b c) : AlX a c := fun i x e => k i x (h i x e)
section
variable (g : G) (b : B) (W : WX) (D : Ends)
def PostS (al : List Addr) (H : Hp) : R → Prop
  | .next s' => ∀ al' σ' H', AlX al al' → Stay H H' → Rel g b al' s' σ' H' → D.nx σ' H'
  | .brk s' => ∀ al' σ' H', AlX al al' → Stay H H' → Rel g b al' s' σ' H' → D.bk σ' H'
  | .cnt s' => ∀ al' σ' H', AlX al al' → Stay H H' → Rel g b al' s' σ' H' → D.ct σ' H'
  | .ret r s' => ∀ al' σ' v H', AlX al al' → Stay H H' → Rel g b al' s' σ' H' → RVRep g b al' s' σ' H' r v → D.rt v H'
  | .exc c d s' => ∀ al' σ' cls dd H', AlX al al' → Stay H H' → Rel g b al' s' σ' H' → ExcRep g al' H' c d cls dd → W cls (some dd) σ' H'
  | .bad => False
end
def rdS (g : G) (W : WX) (f : S → R) : TS := fun D σ H => ∃ b al s, Rel g b al s σ H ∧ PostS g b W D al H (f s)
section
variable {X : Cx} {g : G} {b : B} {W : WX} {D D' : Ends} {al al' : List Addr} {σ : L2.St} {H H' : Hp}
theorem PostS.shift {r : R} (P : PostS g b W D al H r) (a : AlX al al') (x : Stay H H') : PostS g b W D al' H' r := by
  cases r with
  | next s => exact fun al2 σ2 H2 a2 x2 => P al2 σ2 H2 (a.trans a2) (x.trans x2)
  | brk s => exact fun al2 σ2 H2 a2 x2 => P al2 σ2 H2 (a.trans a2) (x.trans x2)
  | cnt s => exact fun al2 σ2 H2 a2 x2 => P al2 σ2 H2 (a.trans a2) (x.trans x2)
  | ret r s => exact fun al2 σ2 v H2 a2 x2 => P al2 σ2 v H2 (a.trans a2) (x.trans x2)
  | exc c d s => exact fun al2 σ2 cls dd H2 a2 x2 => P al2 σ2 cls dd H2 (a.trans a2) (x.trans x2)
  | bad => exact P
/-- an expression, then the rest -/
theorem run_post {α : Type} {r : Res α} {k : α → S → R} (P : PostS g b W D al H (r.run k)) : PostX g b al W σ H (fun a s => PostS g b W D al H (k a s)) r := by
  cases r with
  | ok a s => exact P
  | exc c d s => exact fun cls dd H' x R er => P al σ cls dd H' (AlX.refl al) x.st R er
  | bad => exact P
theorem _root_.L2.PS.mono {st : Stmt} {t t' : TS} (h : PS X st t) (k : ∀ D σ H, t' D σ H → t D σ H) : PS X st t' := ⟨fun pins s σ H D I q => h.run pins s σ H D I (k D σ H q)⟩
theorem _root_.L2.PSs.mono {st : List Stmt} {t t' : TS} (h : PSs X st t) (k : ∀ D σ H, t' D σ H → t D σ H) : PSs X st t' := ⟨fun pins s σ H D I q => h.run pins s σ H D I (k D σ H q)⟩
theorem pss_nil' : PSs X [] (rdS g W fun s => .next s) := pss_nil.mono fun D σ H ⟨b, al, s, R, P⟩ => P al σ H (AlX.refl al) (Stay.refl H) R
theorem pss_cons' {st : Stmt} {sts : List Stmt} {f k : S → R} (h1 : PS X st (rdS g W f)) (h2 : PSs X sts (rdS g W k)) :
    PSs X (st :: sts) (rdS g W fun s => match f s with | .next s1 => k s1 | q => q) := (pss_cons h1 h2).mono fun D σ H ⟨b, al, s, R, P⟩ => by
  refine ⟨b, al, s, R, ?_⟩
  dsimp only at P
  cases q : f s with
  | next s1 =>
    rw [q] at P
    exact fun al' σ' H' a x R' => ⟨b, al', s1, R', PostS.shift P a x⟩
  | brk s1 => rw [q] at P; exact P
  | cnt s1 => rw [q] at P; exact P
  | ret r s1 => rw [q] at P; exact P
  | exc c d s1 => rw [q] at P; exact P
  | bad => rw [q] at P; exact P
theorem ps_pass' {pos : Pos} : PS X (.Pass pos) (rdS g W fun s => .next s) := ps_pass.mono fun D σ H ⟨b, al, s, R, P⟩ => P al σ H (AlX.refl al) (Stay.refl H) R
theorem ps_brk' {pos : Pos} : PS X (.Break pos) (rdS g W fun s => .brk s) := ps_break.mono fun D σ H ⟨b, al, s, R, P⟩ => P al σ H (AlX.refl al) (Stay.refl H) R
theorem ps_cnt' {pos : Pos} : PS X (.Continue pos) (rdS g W fun s => .cnt s) := ps_continue.mono fun D σ H ⟨b, al, s, R, P⟩ => P al σ H (AlX.refl al) (Stay.refl H) R
theorem ps_retN' {pos : Pos} : PS X (.Return none pos) (rdS g W fun s => .ret (.val .non) s) := ps_retN.mono fun D σ H ⟨b, al, s, R, P⟩ => P al σ .non H (AlX.refl al) (Stay.refl H) R (by unfold RVRep Rep; rfl)
theorem ps_ret' {e : Expr} {f : S → Res RV} {pos : Pos} (h : PE X e (rdE g W f)) : PS X (.Return (some e) pos) (rdS g W fun s => (f s).run fun r s => .ret r s) := (ps_ret h).mono fun D σ H ⟨b, al, s, R, P⟩ =>
  ⟨b, al, s, R, (run_post P).mono fun r s1 p v H1 x1 R1 r1 => p al σ v H1 (AlX.refl al) x1.st R1 r1⟩
theorem ps_expr' {e : Expr} {f : S → Res RV} {pos : Pos} (h : PE X e (rdE g W f)) (hs : swapsWith e none pos.line X.env = pure false) : PS X (.Expr e pos) (rdS g W fun s => (f s).run fun _ s => .next s) := (ps_expr h hs).mono fun D σ H ⟨b, al, s, R, P⟩ =>
  ⟨b, al, s, R, (run_post P).mono fun r s1 p v H1 x1 R1 r1 => p al σ H1 (AlX.refl al) x1.st R1⟩
theorem ps_ite' {c : Expr} {a e : List Stmt} {fc : S → Res Bool} {fa fe : S → R} {pos : Pos} (hc : PT X c (rdT g W fc)) (ha : PSs X a (rdS g W fa)) (he : PSs X e (rdS g W fe)) :
    PS X (.If c a e pos) (rdS g W fun s => (fc s).run fun k s => if k then fa s else fe s) := (ps_if hc ha he).mono fun D σ H ⟨b, al, s, R, P⟩ =>
  ⟨b, al, s, R, (run_post P).mono fun k s1 p H1 x1 R1 => by
    cases k with
    | true => exact ⟨b, al, s1, R1, PostS.shift p (AlX.refl al) x1.st⟩
    | false => exact ⟨b, al, s1, R1, PostS.shift p (AlX.refl al) x1.st⟩⟩
/-! ### while -/
theorem fix_at {α β : Type} {f : α → α ⊕ β} {a : α} {r : β} (h : fixF f a = some r) : ∃ n, iterF f n a = some r := by
  unfold fixF at h
  split at h
  · rename_i hx
    have := hx.choose_spec.choose_spec
    cases h
    exact ⟨_, this⟩
  · cases h
theorem iterF_det {α β : Type} {f : α → α ⊕ β} : ∀ {n m : Nat} {a : α} {r q : β}, iterF f n a = some r → iterF f m a = some q → r = q
  | 0, _, _, _, _, h, _ => by cases h
  | _ + 1, 0, _, _, _, _, h => by cases h
  | n + 1, m + 1, a, r, q, h, k => by
    unfold iterF at h k
    cases e : f a with
    | inr b => rw [e] at h k; cases h; cases k; rfl
    | inl a' => rw [e] at h k; exact iterF_det h k
theorem fix_of {α β : Type} {f : α → α ⊕ β} {a : α} {r : β} {n : Nat} (h : iterF f n a = some r) : fixF f a = some r := by
  have hx : ∃ n b, iterF f n a = some b := ⟨n, r, h⟩
  unfold fixF
  rw [dif_pos hx]
  have := hx.choose_spec.choose_spec
  rw [iterF_det this h]
/-- a turn of a while -/
def whTurn (fc : S → Res Bool) (fb : S → R) (s : S) : S ⊕ R := match fc s with
  | .ok false s1 => .inr (.next s1)
  | .ok true s1 => match fb s1 with
    | .next s2 => .inl s2
    | .cnt s2 => .inl s2
    | .brk s2 => .inr (.next s2)
    | r => .inr r
  | .exc c d s1 => .inr (.exc c d s1)
  | .bad => .inr .bad
theorem ps_while' {c : Expr} {body : List Stmt} {fc : S → Res Bool} {fb : S → R} {pos : Pos} (hp : PassesOwn (model X.prog X.w) X.A X.env X.xe) (hc : PT X c (rdT g W fc)) (hb : PSs X body (rdS g W fb)) :
    PS X (.While c body [] pos) (rdS g W fun s => (fixF (whTurn fc fb) s).getD .bad) := (ps_while hp hc hb).mono fun D σ H ⟨b, al, s, R, P⟩ => by
  dsimp only at P
  cases q : fixF (whTurn fc fb) s with
  | none => rw [q] at P; exact P.elim
  | some r =>
  rw [q] at P
  obtain ⟨n, hn⟩ := fix_at q
  refine ⟨fun m σ' H' => ∃ al' s', AlX al al' ∧ Stay H H' ∧ Rel g b al' s' σ' H' ∧ iterF (whTurn fc fb) m s' = some r, ⟨n, al, s, AlX.refl al, Stay.refl H, R, hn⟩, ?_⟩
  rintro m σ1 H1 ⟨al1, s1, a1, x1, R1, it⟩
  cases m with
  | zero => cases it
  | succ m =>
  unfold iterF at it
  refine ⟨b, al1, s1, R1, ?_⟩
  cases qc : fc s1 with
  | bad =>
    unfold whTurn at it
    rw [qc] at it
    cases it
    exact P
  | exc cc d s2 =>
    unfold whTurn at it
    rw [qc] at it
    cases it
    exact fun cls dd H' x R' er => P al1 σ1 cls dd H' a1 (x1.trans x.st) R' er
  | ok k s2 =>
    intro H2 x2 R2
    cases k with
    | false =>
      unfold whTurn at it
      rw [qc] at it
      cases it
      rw [if_neg Bool.false_ne_true]
      exact P al1 σ1 H2 a1 (x1.trans x2.st) R2
    | true =>
      rw [if_pos rfl]
      refine ⟨fun σ' H' => ∃ al' s', AlX al al' ∧ Stay H H' ∧ Rel g b al' s' σ' H' ∧ iterF (whTurn fc fb) m s' = some r, fun σ' H' h => ⟨m, Nat.lt_succ_self m, h⟩, b, al1, s2, R2, ?_⟩
      unfold whTurn at it
      rw [qc] at it
      dsimp only at it
      cases qb : fb s2 with
      | next s3 =>
        rw [qb] at it
        exact fun al' σ' H' a x R' => ⟨al', s3, a1.trans a, (x1.trans x2.st).trans x, R', it⟩
      | cnt s3 =>
        rw [qb] at it
        exact fun al' σ' H' a x R' => ⟨al', s3, a1.trans a, (x1.trans x2.st).trans x, R', it⟩
      | brk s3 =>
        rw [qb] at it
        cases it
        exact fun al' σ' H' a x R' => P al' σ' H' (a1.trans a) ((x1.trans x2.st).trans x) R'
      | ret rv s3 =>
        rw [qb] at it
        cases it
        exact fun al' σ' v H' a x R' rr => P al' σ' v H' (a1.trans a) ((x1.trans x2.st).trans x) R' rr
      | exc cc d s3 =>
        rw [qb] at it
        cases it
        exact fun al' σ' cls dd H' a x R' er => P al' σ' cls dd H' (a1.trans a) ((x1.trans x2.st).trans x) R' er
      | bad =>
        rw [qb] at it
        cases it
        exact P
/-! ### for -/
theorem ps_for' {tge iter : Expr} {body : List Stmt} {tg : MT} {fi : S → Res (List PI.D)} {fb : S → R} {pos : Pos} (hK : X.K = g.K) (hp : PassesOwn (model X.prog X.w) X.A X.env X.xe) (hc : X.calm = true) (hi : L2.PI X tge iter (rdI g W fi)) (hg : PG X tge (gtOf X.K tg)) (hb : PSs X body (rdS g W fb))
    (hs : ∀ x, foldedSetIterable iter X.env x = pure x) : PS X (.For tge iter body [] pos) (rdS g W fun s => (fi s).run fun ds s => forGo (bindT tg) fb ds s) := (ps_for hp hc hi hg hb hs).mono fun D σ H ⟨b, al, s, R, P⟩ => by
  refine ⟨b, al, s, R, (run_post P).mono fun ds s1 p J H1 x1 R1 wk => ?_⟩
  refine ⟨fun i m σ' H' => m = ds.length - i ∧ i ≤ ds.length ∧ ∃ al' s', AlX al al' ∧ Stay H1 H' ∧ Rel g b al' s' σ' H' ∧ PostS g b W D al' H' (forGo (bindT tg) fb (ds.drop i) s'),
    ⟨ds.length, by omega, Nat.zero_le _, al, s1, AlX.refl al, Stay.refl H1, R1, p.shift (AlX.refl al) x1.st⟩, ?_⟩
  rintro i m σ2 H2 ⟨rfl, hi2, al2, s2, a2, st2, R2, P2⟩
  obtain ⟨wk1, wk2⟩ := wk H2 st2
  by_cases hlt : i < ds.length
  · refine .inr ?_
    have hget : ds[i]? = some ds[i] := List.getElem?_eq_getElem hlt
    obtain ⟨g1, g2⟩ := wk1 i _ hget
    refine ⟨g1, fun σ' H' => ∃ al' s', AlX al al' ∧ Stay H1 H' ∧ Rel g b al' s' σ' H' ∧ PostS g b W D al' H' (forGo (bindT tg) fb (ds.drop (i + 1)) s'), fun σ' H' h => ⟨ds.length - (i + 1), by omega, rfl, hlt, h⟩, fun x H3 y3 => ?_⟩
    obtain ⟨k3, r3⟩ := g2 x H3 y3
    have R3 := R2.more k3
    have st3 : Stay H2 H3 := ⟨fun a xs e => k3 _ _ e, fun a o u e => k3 _ _ e, fun a fs e => k3 _ _ e⟩
    rw [show ds.drop i = ds[i] :: ds.drop (i + 1) from List.drop_eq_getElem_cons hlt] at P2
    unfold forGo at P2
    cases qb : bindT tg ds[i] s2 with
    | none => rw [qb] at P2; exact P2.elim
    | some s3 =>
    rw [qb] at P2
    refine tg_run hK tg b al2 s2 σ2 H3 _ x s3 _ R3 (r3.stay (al' := al2) (Stay.refl _) a2) qb fun σ4 R4 _ => ⟨b, al2, s3, R4, ?_⟩
    dsimp only at P2
    cases qf : fb s3 with
    | next s4 =>
      rw [qf] at P2
      exact fun al' σ' H' a x R' => ⟨al', s4, a2.trans a, (st2.trans st3).trans x, R', PostS.shift P2 a (st3.trans x)⟩
    | cnt s4 =>
      rw [qf] at P2
      exact fun al' σ' H' a x R' => ⟨al', s4, a2.trans a, (st2.trans st3).trans x, R', PostS.shift P2 a (st3.trans x)⟩
    | brk s4 =>
      rw [qf] at P2
      exact fun al' σ' H' a x R' => P2 al' σ' H' a (st3.trans x) R'
    | ret rv s4 =>
      rw [qf] at P2
      exact fun al' σ' v H' a x R' => P2 al' σ' v H' a (st3.trans x) R'
    | exc cc d s4 =>
      rw [qf] at P2
      exact fun al' σ' cls dd H' a x R' => P2 al' σ' cls dd H' a (st3.trans x) R'
    | bad => rw [qf] at P2; exact P2.elim
  · refine .inl ⟨wk2 i (by omega), ?_⟩
    have : i = ds.length := by omega
    rw [this, List.drop_length] at P2
    exact P2 al2 σ2 H2 (AlX.refl _) (Stay.refl _) R2
end
end PI

namespace PI
open PySem PySem.Spec PyProof.Rows L2

/-! ### the state after a store -/
section
variable {g : G} {b : B} {al : List Addr} {s : S} {σ : L2.St} {H : Hp}
theorem get_set {α : Type} {l : List α} {i j : Nat} {x y : α} (h : (l.set i x)[j]? = some y) : (i = j ∧ x = y ∧ i < l.length) ∨ (i ≠ j ∧ l[j]? = some y) := by
  by_cases hj : i = j
  · subst hj
    by_cases hl : i < l.length
    · rw [List.getElem?_set_self hl] at h
      exact .inl ⟨rfl, Option.some.inj h, hl⟩
    · rw [List.getElem?_eq_none (by rw [List.length_set]; omega)] at h; cases h
  · rw [List.getElem?_set_ne hj] at h
    exact .inr ⟨hj, h⟩
/-- a new own thing goes to a slot -/
theorem Rel.setNew (r : Rel g b al s σ H) (i : Nat) {x : Sl} {a : Addr} (q : SlRep g b al H x (.ref a)) (aw : Away s.t σ a) : Rel g b al { s with t := s.t.set i (some x) } (σ.set i (some (.ref a))) H := by
  refine ⟨by rw [List.length_set, List.length_set]; exact r.len, fun j y e => ?_, fun j k y z c hjk ej ek oy oz e1 => ?_, r.cell, r.alen, r.nd, r.base, r.anew, r.apre⟩
  · rcases get_set e with ⟨rfl, e2, hl⟩ | ⟨hj, e2⟩
    · cases e2
      exact ⟨_, by rw [List.getElem?_set_self (by rw [← r.len]; exact hl)], q⟩
    · rw [List.getElem?_set_ne hj]
      exact r.sl j y e2
  · rcases get_set ej with ⟨rfl, e2, hl⟩ | ⟨hj, e2⟩
    · have : i ≠ k := hjk
      rw [List.getElem?_set_self (by rw [← r.len]; exact hl)] at e1
      cases e1
      rw [List.getElem?_set_ne this]
      rw [List.getElem?_set_ne this] at ek
      exact aw k z ek oz
    · rw [List.getElem?_set_ne hj] at e1
      rcases get_set ek with ⟨rfl, e3, hl⟩ | ⟨hk, e3⟩
      · rw [List.getElem?_set_self (by rw [← r.len]; exact hl)]
        intro z
        cases z
        exact aw j y e2 oy e1
      · rw [List.getElem?_set_ne hk]
        exact r.inj j k y z c hjk e2 e3 oy oz e1
theorem nodup_at {α : Type} {l : List α} (h : l.Nodup) {i j : Nat} {x : α} (h1 : l[i]? = some x) (h2 : l[j]? = some x) : i = j := by
  obtain ⟨i1, i2⟩ := List.getElem?_eq_some_iff.mp h1
  obtain ⟨j1, j2⟩ := List.getElem?_eq_some_iff.mp h2
  have p := List.pairwise_iff_getElem.mp h
  rcases Nat.lt_trichotomy i j with z | z | z
  · exact absurd (i2.trans j2.symm) (p i j i1 j1 z)
  · exact z
  · exact absurd (j2.trans i2.symm) (p j i j1 i1 z)
theorem stay_lst {a : Addr} {vs ws : List V} (h : H a = some (.lst vs)) : Stay H (upd H a (.lst ws)) :=
  ⟨fun c xs e => by rw [upd_ne (ne_of e h (by intro z; cases z))]; exact e, fun c x u e => by rw [upd_ne (ne_of e h (by intro z; cases z))]; exact e, fun c fs e => by rw [upd_ne (ne_of e h (by intro z; cases z))]; exact e⟩
theorem stay_dK {a : Addr} {vs ws : List (Key × V)} (h : H a = some (.dK vs)) : Stay H (upd H a (.dK ws)) :=
  ⟨fun c xs e => by rw [upd_ne (ne_of e h (by intro z; cases z))]; exact e, fun c x u e => by rw [upd_ne (ne_of e h (by intro z; cases z))]; exact e, fun c fs e => by rw [upd_ne (ne_of e h (by intro z; cases z))]; exact e⟩
/-- the own list of a slot is written -/
theorem Rel.writeOwn (r : Rel g b al s σ H) {i : Nat} {ds es : List D} {a : Addr} {vs ws : List V} (hi : s.t[i]? = some (some (.own ds))) (hσ : σ[i]? = some (some (.ref a))) (h : H a = some (.lst vs)) (q : Reps g.K al H es ws) (n : a ∉ al) (hb : b.Hb a = none) :
    Rel g b al { s with t := s.t.set i (some (.own es)) } σ (upd H a (.lst ws)) := by
  have st := stay_lst (ws := ws) h
  have hlt : i < s.t.length := (List.getElem?_eq_some_iff.mp hi).1
  refine ⟨by rw [List.length_set]; exact r.len, fun j x e => ?_, fun j k x y c hjk ej ek ox oy e1 => ?_, fun c fs e => ?_, r.alen, r.nd, fun c u e m => ?_, r.anew, r.apre⟩
  · rcases get_set e with ⟨rfl, e2, hl⟩ | ⟨hj, e2⟩
    · cases e2
      exact ⟨_, hσ, a, ws, rfl, upd_same, q.stay st fun _ _ z => z, n, hb⟩
    · obtain ⟨v, e1, z⟩ := r.sl j x e2
      refine ⟨v, e1, ?_⟩
      cases x with
      | val d => exact z.stay st fun _ _ z => z
      | own fs =>
        obtain ⟨c, us, ev, h1, h2, h3⟩ := z
        have : c ≠ a := fun w => by subst ev; subst w; exact r.inj i j _ _ c hj hi e2 rfl rfl hσ e1
        exact ⟨c, us, ev, by rw [upd_ne this]; exact h1, h2.stay st fun _ _ z => z, h3⟩
      | dct kvs =>
        obtain ⟨c, us, ev, h1, h2, h3⟩ := z
        have : c ≠ a := fun z => by subst z; rw [h] at h1; cases h1
        exact ⟨c, us, ev, by rw [upd_ne this]; exact h1, h2.stay st fun _ _ z => z, h3⟩
      | ldk kvs =>
        obtain ⟨a', o', ws', e1, e2, e3, e4, e5, e6⟩ := z
        exact ⟨a', o', ws', e1, e2, st.frz _ _ _ e3, e4.stay st fun _ _ z => z, e5, e6⟩
      | exc c d =>
        obtain ⟨a', dd, w, e1, e2, e3, e4⟩ := z
        exact ⟨a', dd, w, e1, e2, st.xd _ _ e3, e4.stay st fun _ _ z => z⟩
  · have ej' : ∃ x', s.t[j]? = some (some x') ∧ x'.isOwn = true := by
      rcases get_set ej with ⟨rfl, e2, hl⟩ | ⟨hj, e2⟩
      · exact ⟨_, hi, rfl⟩
      · exact ⟨x, e2, ox⟩
    have ek' : ∃ x', s.t[k]? = some (some x') ∧ x'.isOwn = true := by
      rcases get_set ek with ⟨rfl, e2, hl⟩ | ⟨hj, e2⟩
      · exact ⟨_, hi, rfl⟩
      · exact ⟨y, e2, oy⟩
    obtain ⟨x', e2, o2⟩ := ej'
    obtain ⟨y', e3, o3⟩ := ek'
    exact r.inj j k x' y' c hjk e2 e3 o2 o3 e1
  · obtain ⟨c', us, e1, e2, e3⟩ := r.cell c fs e
    have : c' ≠ a := fun z => n (z ▸ List.mem_of_getElem? e1)
    exact ⟨c', us, e1, by rw [upd_ne this]; exact e2, e3.stay st fun _ _ z => z⟩
  · have : c ≠ a := fun z => by subst z; rw [hb] at e; cases e
    rw [upd_ne this]; exact r.base c u e m
/-- a shared list is written -/
theorem Rel.writeCell (r : Rel g b al s σ H) {k : Nat} {es : List D} {a : Addr} {vs ws : List V} (hk : al[k]? = some a) (h : H a = some (.lst vs)) (q : Reps g.K al H es ws) :
    Rel g b al { s with h := s.h.set k es } σ (upd H a (.lst ws)) := by
  have st := stay_lst (ws := ws) h
  have ha := List.mem_of_getElem? hk
  refine ⟨r.len, fun j x e => ?_, r.inj, fun c fs e => ?_, by rw [r.alen, List.length_set], r.nd, fun c u e m => ?_, r.anew, r.apre⟩
  · obtain ⟨v, e1, z⟩ := r.sl j x e
    refine ⟨v, e1, ?_⟩
    cases x with
    | val d => exact z.stay st fun _ _ z => z
    | own fs =>
      obtain ⟨c, us, ev, h1, h2, h3, h4⟩ := z
      have : c ≠ a := fun w => by subst w; exact h3 ha
      exact ⟨c, us, ev, by rw [upd_ne this]; exact h1, h2.stay st fun _ _ z => z, h3, h4⟩
    | dct kvs =>
      obtain ⟨c, us, ev, h1, h2, h3⟩ := z
      have : c ≠ a := fun z => by subst z; rw [h] at h1; cases h1
      exact ⟨c, us, ev, by rw [upd_ne this]; exact h1, h2.stay st fun _ _ z => z, h3⟩
    | ldk kvs =>
      obtain ⟨a', o', ws', e1, e2, e3, e4, e5, e6⟩ := z
      exact ⟨a', o', ws', e1, e2, st.frz _ _ _ e3, e4.stay st fun _ _ z => z, e5, e6⟩
    | exc c d =>
      obtain ⟨a', dd, w, e1, e2, e3, e4⟩ := z
      exact ⟨a', dd, w, e1, e2, st.xd _ _ e3, e4.stay st fun _ _ z => z⟩
  · rcases get_set e with ⟨rfl, rfl, hl⟩ | ⟨hj, e2⟩
    · exact ⟨a, ws, hk, upd_same, q.stay st fun _ _ z => z⟩
    · obtain ⟨c', us, e1, e3, e4⟩ := r.cell c fs e2
      have : c' ≠ a := fun z => by
        subst z
        exact hj (nodup_at r.nd hk e1)
      exact ⟨c', us, e1, by rw [upd_ne this]; exact e3, e4.stay st fun _ _ z => z⟩
  · have : c ≠ a := fun z => by
      subst z
      rcases r.anew c ha with z | z
      · exact m z
      · rw [z] at e; cases e
    rw [upd_ne this]; exact r.base c u e m
/-- the own dict of a slot is written -/
theorem Rel.writeDct (r : Rel g b al s σ H) {i : Nat} {ds es : List (Key × D)} {a : Addr} {vs ws : List (Key × V)} (hi : s.t[i]? = some (some (.dct ds))) (hσ : σ[i]? = some (some (.ref a))) (h : H a = some (.dK vs)) (q : KRep g.K al H es ws) (n : a ∉ al) (hb : b.Hb a = none) :
    Rel g b al { s with t := s.t.set i (some (.dct es)) } σ (upd H a (.dK ws)) := by
  have st := stay_dK (ws := ws) h
  have hlt : i < s.t.length := (List.getElem?_eq_some_iff.mp hi).1
  refine ⟨by rw [List.length_set]; exact r.len, fun j x e => ?_, fun j k x y c hjk ej ek ox oy e1 => ?_, fun c fs e => ?_, r.alen, r.nd, fun c u e m => ?_, r.anew, r.apre⟩
  · rcases get_set e with ⟨rfl, e2, hl⟩ | ⟨hj, e2⟩
    · cases e2
      exact ⟨_, hσ, a, ws, rfl, upd_same, q.stay st fun _ _ z => z, n, hb⟩
    · obtain ⟨v, e1, z⟩ := r.sl j x e2
      refine ⟨v, e1, ?_⟩
      cases x with
      | val d => exact z.stay st fun _ _ z => z
      | own fs =>
        obtain ⟨c, us, ev, h1, h2, h3⟩ := z
        have : c ≠ a := fun w => by subst w; rw [h] at h1; cases h1
        exact ⟨c, us, ev, by rw [upd_ne this]; exact h1, h2.stay st fun _ _ z => z, h3⟩
      | dct kvs =>
        obtain ⟨c, us, ev, h1, h2, h3⟩ := z
        have : c ≠ a := fun w => by subst ev; subst w; exact r.inj i j _ _ c hj hi e2 rfl rfl hσ e1
        exact ⟨c, us, ev, by rw [upd_ne this]; exact h1, h2.stay st fun _ _ z => z, h3⟩
      | ldk kvs =>
        obtain ⟨a', o', ws', e1, e2, e3, e4, e5, e6⟩ := z
        exact ⟨a', o', ws', e1, e2, st.frz _ _ _ e3, e4.stay st fun _ _ z => z, e5, e6⟩
      | exc c d =>
        obtain ⟨a', dd, w, e1, e2, e3, e4⟩ := z
        exact ⟨a', dd, w, e1, e2, st.xd _ _ e3, e4.stay st fun _ _ z => z⟩
  · have ej' : ∃ x', s.t[j]? = some (some x') ∧ x'.isOwn = true := by
      rcases get_set ej with ⟨rfl, e2, hl⟩ | ⟨hj, e2⟩
      · exact ⟨_, hi, rfl⟩
      · exact ⟨x, e2, ox⟩
    have ek' : ∃ x', s.t[k]? = some (some x') ∧ x'.isOwn = true := by
      rcases get_set ek with ⟨rfl, e2, hl⟩ | ⟨hj, e2⟩
      · exact ⟨_, hi, rfl⟩
      · exact ⟨y, e2, oy⟩
    obtain ⟨x', e2, o2⟩ := ej'
    obtain ⟨y', e3, o3⟩ := ek'
    exact r.inj j k x' y' c hjk e2 e3 o2 o3 e1
  · obtain ⟨c', us, e1, e2, e3⟩ := r.cell c fs e
    have : c' ≠ a := fun z => by subst z; rw [h] at e2; cases e2
    exact ⟨c', us, e1, by rw [upd_ne this]; exact e2, e3.stay st fun _ _ z => z⟩
  · have : c ≠ a := fun z => by subst z; rw [hb] at e; cases e
    rw [upd_ne this]; exact r.base c u e m
/-- a new list becomes a shared one -/
theorem Rel.share (r : Rel g b al s σ H) {ds : List D} {a : Addr} {vs : List V} (h : H a = some (.lst vs)) (q : Reps g.K al H ds vs) (n : a ∉ al) (hb : b.Hb a = none) (aw : Away s.t σ a) :
    Rel g b (al ++ [a]) { s with h := s.h ++ [ds] } σ H ∧ AlX al (al ++ [a]) ∧ (al ++ [a])[s.h.length]? = some a := by
  have ax : AlX al (al ++ [a]) := fun k c e => by rw [List.getElem?_append_left (List.getElem?_eq_some_iff.mp e).1]; exact e
  have st := Stay.refl H
  refine ⟨⟨r.len, fun j x e => ?_, r.inj, fun c fs e => ?_, by simp [r.alen], ?_, fun c u e m => r.base c u e m, fun c hc => ?_, fun k c e => ax k c (r.apre k c e)⟩, ax, by rw [← r.alen]; simp⟩
  · obtain ⟨v, e1, z⟩ := r.sl j x e
    refine ⟨v, e1, ?_⟩
    have no : ∀ c, v = .ref c → x.isOwn = true → c ∉ al → c ∉ al ++ [a] := fun c ev o h3 hm => by
      rcases List.mem_append.mp hm with hm | hm
      · exact h3 hm
      · subst ev
        cases List.mem_singleton.mp hm
        exact aw j x e o e1
    cases x with
    | val d => exact z.stay st ax
    | own fs =>
      obtain ⟨c, us, ev, h1, h2, h3, h4⟩ := z
      exact ⟨c, us, ev, h1, h2.stay st ax, no c ev rfl h3, h4⟩
    | dct kvs =>
      obtain ⟨c, us, ev, h1, h2, h3, h4⟩ := z
      exact ⟨c, us, ev, h1, h2.stay st ax, no c ev rfl h3, h4⟩
    | ldk kvs =>
      obtain ⟨c, o, us, e2, ev, h1, h2, h3, h4⟩ := z
      exact ⟨c, o, us, e2, ev, h1, h2.stay st ax, no c ev rfl h3, h4⟩
    | exc c d =>
      obtain ⟨a', dd, w, e1, e2, e3, e4⟩ := z
      exact ⟨a', dd, w, e1, e2, e3, e4.stay st ax⟩
  · by_cases hc : c < s.h.length
    · have e : (s.h ++ [ds])[c]? = some fs := e
      rw [List.getElem?_append_left hc] at e
      obtain ⟨c', us, e1, e2, e3⟩ := r.cell c fs e
      exact ⟨c', us, ax _ _ e1, e2, e3.stay st ax⟩
    · have e : (s.h ++ [ds])[c]? = some fs := e
      have hl := (List.getElem?_eq_some_iff.mp e).1
      simp at hl
      have hc2 : c = s.h.length := by omega
      subst hc2
      simp at e
      subst e
      exact ⟨a, vs, by rw [← r.alen]; simp, h, q.stay st ax⟩
  · rw [List.nodup_append]
    refine ⟨r.nd, by simp, fun x hx y hy => ?_⟩
    cases List.mem_singleton.mp hy
    exact fun z => n (z ▸ hx)
  · rcases List.mem_append.mp hc with hc | hc
    · exact r.anew c hc
    · cases List.mem_singleton.mp hc
      exact .inr hb
theorem KRep.put {kvs : List (Key × D)} {ws : List (Key × V)} {q : Key} {d : D} {v : V} (h : KRep g.K al H kvs ws) (r : Rep g.K al H d v) : KRep g.K al H (kput kvs q d) (putK ws q v) := by
  have ha : (kvs.any fun kv => decide (kv.1 = q)) = (ws.any fun kv => decide (kv.1 = q)) := by
    induction h with
    | nil => rfl
    | cons p t ih => simp only [List.any_cons, p.1, ih]
  unfold kput putK
  rw [ha]
  split
  · rename_i hh
    clear hh ha
    induction h with
    | nil => exact .nil
    | cons p t ih =>
      rw [List.map_cons, List.map_cons]
      refine .cons ?_ ih
      obtain ⟨p1, p2⟩ := p
      rw [← p1]
      split
      · exact ⟨rfl, r⟩
      · exact ⟨p1, p2⟩
  · clear ha
    rename_i hh
    clear hh
    induction h with
    | nil => exact .cons ⟨rfl, r⟩ .nil
    | cons p t ih => exact .cons p ih
theorem Rel.rvOwn (r : Rel g b al s σ H) {i : Nat} {ds : List D} {v : V} (h : RVRep g b al s σ H (.loc i ds) v) : SlRep g b al H (.own ds) v := by
  obtain ⟨w, e1, q⟩ := r.sl i _ h.1
  rw [h.2] at e1; cases e1
  exact q
end
end PI

namespace PI
open PySem PySem.Spec PyProof.Rows L2
section
variable {X : Cx} {g : G} {b : B} {W : WX} {al al' : List Addr} {σ : L2.St} {H H' : Hp}
/-- what a result leaves in a slot -/
theorem put_end {D : Ends} {i : Nat} {r : RV} {s1 : S} {v : V} {H1 : Hp} (R1 : Rel g b al s1 σ H1) (p : PostS g b W D al H (putR i r s1)) (x1 : Ext al H H1) (rv : RVRep g b al s1 σ H1 r v) :
    (D.nx (σ.set i (some v)) H1) ∨ ∃ a vs, v = .ref a ∧ H1 a = some (.lst vs) ∧ ∀ o, D.nx (σ.set i (some v)) (upd H1 a (.frz o (.lst vs))) := by
  cases r with
  | val d => exact .inl (p al _ H1 (AlX.refl al) x1.st (R1.setVal i rv))
  | own ds =>
    obtain ⟨a, vs, rfl, h1, h2, h3, h4, h5⟩ := rv
    exact .inl (p al _ H1 (AlX.refl al) x1.st (R1.setNew i (x := .own ds) ⟨a, vs, rfl, h1, h2, h3, h4⟩ h5))
  | dct ds =>
    obtain ⟨a, vs, rfl, h1, h2, h3, h4, h5⟩ := rv
    exact .inl (p al _ H1 (AlX.refl al) x1.st (R1.setNew i (x := .dct ds) ⟨a, vs, rfl, h1, h2, h3, h4⟩ h5))
  | loc j ds =>
    obtain ⟨a, vs, rfl, h3, h4, h5, h6⟩ := R1.own rv.1 rv.2
    refine .inr ⟨a, vs, rfl, h3, fun o => ?_⟩
    obtain ⟨k1, k2⟩ := R1.frzLoc (o := o) rv.1 rv.2 h3 h4 h5 h6
    exact p al _ _ (AlX.refl al) (x1.st.trans (stay_frz h3)) (k1.setVal i k2)
  | ldc j ds => exact p.elim
/-- name = e -/
theorem ps_setN {i : Nat} {x : Str} {e : Expr} {f : S → Res RV} {pos pos' : Pos} (nd : X.N.Nodup) (h : NmOk X i x) (he : PE X e (rdE g W f)) (hs : swapsWith e (some (.Name x pos')) pos.line X.env = pure false) :
    PS X (.Assign [.Name x pos'] e pos) (rdS g W fun s => (f s).run fun r s => putR i r s) := (ps_set nd h.ix h.loc he.frz hs h.fn).mono fun D σ H ⟨b, al, s, R, P⟩ =>
  ⟨b, al, s, R, (run_post P).mono fun r s1 p v H1 x1 R1 rv => put_end R1 p x1 rv⟩
theorem own_end {D : Ends} {i : Nat} {r : Res RV} (P : PostX g b al W σ H (fun a s => PostS g b W D al H (putR i a s)) r) (ow : ∀ rv s, r = .ok rv s → ∃ ds, rv = .own ds) :
    PostX g b al W σ H (okR g b al σ H (fun r s' v H' => RVRep g b al s' σ H' r v) (gName i · σ · D.nx)) r := by
  cases r with
  | ok r s1 =>
    intro v H1 x1 R1 rv
    obtain ⟨ds, rfl⟩ := ow _ _ rfl
    obtain ⟨a, vs, rfl, h1, h2, h3, h4, h5⟩ := rv
    exact P al _ H1 (AlX.refl al) x1.st (R1.setNew i (x := .own ds) ⟨a, vs, rfl, h1, h2, h3, h4⟩ h5)
  | exc c d s1 => exact P
  | bad => exact P
/-- name = a list comprehension (stored within the block) -/
theorem ps_setC {i : Nat} {y : Str} {py : Pos} {elt tge iter : Expr} {ifs : List Expr} {scope : Scope} {own : List (Str × Nat)} {pos spos : Pos} {tg : MT} {fi : S → Res (List PI.D)} {fc : S → Res Bool} {fe : S → Res PI.D}
    (hc : X.calm = true) (hN : X.N.Nodup) (hy : X.N[i]? = some y) (hyl : X.env.scope.names.lookup y = some .local) (hsw : swapsWith (.ListComp elt [⟨tge, iter, ifs, 0⟩] scope pos) (some (.Name y py)) spos.line X.env = pure true)
    (hi : L2.PI X tge iter (rdI g W fi)) (ok : BlkOk X.N X.env.scope scope own) (ho : own.map (·.2) = tg.ids)
    (gt : TG) (hg : ∀ (s : Shared) (H : Hp) (C : Addr) (cl : List (Str × Addr)) (fp : List Addr), PG (X.blk s H scope (compEnvC scope cl C X.env) fp) tge gt)
    (hgt : ∀ (b : B) (al : List Addr) (s : S) (σ : L2.St) (H : Hp) (d : PI.D) (x : V) (s2 : S) (Q : L2.St → Hp → Prop), Rel g b al s σ H → Rep g.K al H d x → bindT tg d s = some s2 →
      (∀ σ2, Rel g b al s2 σ2 H → SameOff tg.ids σ σ2 → Q σ2 H) → gt x σ H Q)
    (ht : ∀ (s : Shared) (H : Hp) (C : Addr) (cl : List (Str × Addr)) (fp : List Addr), PTs (X.blk s H scope (compEnvC scope cl C X.env) fp) ifs (rdT g W0 fc))
    (he : ∀ (s : Shared) (H : Hp) (C : Addr) (cl : List (Str × Addr)) (fp : List Addr), PE (X.blk s H scope (compEnvC scope cl C X.env) fp) elt (rdV g W0 fe))
    (hs : ∀ x, foldedSetIterable iter X.env x = pure x) :
    PS X (.Assign [.Name y py] (.ListComp elt [⟨tge, iter, ifs, 0⟩] scope pos) spos) (rdS g W fun s => (((fi s).bind fun items s => match lcGo (lcTurn tg fc fe) [] items s with
      | .ok ds s1 => .ok (.own ds) { s1 with t := backT s1.t s.t tg.ids }
      | _ => .bad) : Res RV).run fun r s => putR i r s) := (ps_setLc hc hN hy hyl hsw hi ok hg ht he hs).mono fun D σ H ⟨b, al, s, R, P⟩ => by
  have P' := run_post (σ := σ) P
  refine pe_lc' (pos := pos) hc hN hi ok ho gt hg hgt ht he hs rfl σ H _ ⟨b, al, s, R, own_end P' fun r s1 q => ?_⟩
  dsimp only at q
  cases q1 : fi s with
  | ok items s2 =>
    rw [q1] at q
    simp only [Res.bind] at q
    split at q
    · cases q; exact ⟨_, rfl⟩
    · cases q
  | exc _ _ _ => rw [q1] at q; cases q
  | bad => rw [q1] at q; cases q
/-- name = [elt for .. for ..] -/
theorem ps_setC2 {i : Nat} {y : Str} {py : Pos} {elt tge iter tge1 iter1 : Expr} {ifs ifs1 : List Expr} {scope : Scope} {own : List (Str × Nat)} {pos spos : Pos} {tg tg1 : MT} {fi fi1 : S → Res (List PI.D)} {fc fc1 : S → Res Bool} {fe : S → Res PI.D}
    (hc : X.calm = true) (hN : X.N.Nodup) (hy : X.N[i]? = some y) (hyl : X.env.scope.names.lookup y = some .local) (hsw : swapsWith (.ListComp elt [⟨tge, iter, ifs, 0⟩, ⟨tge1, iter1, ifs1, 0⟩] scope pos) (some (.Name y py)) spos.line X.env = pure true)
    (hi : L2.PI X tge iter (rdI g W fi)) (ok : BlkOk X.N X.env.scope scope own) (ho : own.map (·.2) = tg.ids ++ tg1.ids)
    (gt gt1 : TG) (hg : ∀ (s : Shared) (H : Hp) (C : Addr) (cl : List (Str × Addr)) (fp : List Addr), PG (X.blk s H scope (compEnvC scope cl C X.env) fp) tge gt)
    (hgt : ∀ (b : B) (al : List Addr) (s : S) (σ : L2.St) (H : Hp) (d : PI.D) (x : V) (s2 : S) (Q : L2.St → Hp → Prop), Rel g b al s σ H → Rep g.K al H d x → bindT tg d s = some s2 →
      (∀ σ2, Rel g b al s2 σ2 H → SameOff tg.ids σ σ2 → Q σ2 H) → gt x σ H Q)
    (ht : ∀ (s : Shared) (H : Hp) (C : Addr) (cl : List (Str × Addr)) (fp : List Addr), PTs (X.blk s H scope (compEnvC scope cl C X.env) fp) ifs (rdT g W0 fc))
    (hi1 : ∀ (s : Shared) (H : Hp) (C : Addr) (cl : List (Str × Addr)) (fp : List Addr), L2.PI (X.blk s H scope (compEnvC scope cl C X.env) fp) tge1 iter1 (rdI g W0 fi1))
    (hg1 : ∀ (s : Shared) (H : Hp) (C : Addr) (cl : List (Str × Addr)) (fp : List Addr), PG (X.blk s H scope (compEnvC scope cl C X.env) fp) tge1 gt1)
    (hgt1 : ∀ (b : B) (al : List Addr) (s : S) (σ : L2.St) (H : Hp) (d : PI.D) (x : V) (s2 : S) (Q : L2.St → Hp → Prop), Rel g b al s σ H → Rep g.K al H d x → bindT tg1 d s = some s2 →
      (∀ σ2, Rel g b al s2 σ2 H → SameOff tg1.ids σ σ2 → Q σ2 H) → gt1 x σ H Q)
    (ht1 : ∀ (s : Shared) (H : Hp) (C : Addr) (cl : List (Str × Addr)) (fp : List Addr), PTs (X.blk s H scope (compEnvC scope cl C X.env) fp) ifs1 (rdT g W0 fc1))
    (he : ∀ (s : Shared) (H : Hp) (C : Addr) (cl : List (Str × Addr)) (fp : List Addr), PE (X.blk s H scope (compEnvC scope cl C X.env) fp) elt (rdV g W0 fe))
    (hs : ∀ x, foldedSetIterable iter X.env x = pure x) (hs1 : ∀ env x, foldedSetIterable iter1 env x = pure x) :
    PS X (.Assign [.Name y py] (.ListComp elt [⟨tge, iter, ifs, 0⟩, ⟨tge1, iter1, ifs1, 0⟩] scope pos) spos) (rdS g W fun s => (((fi s).bind fun items s => match lcGo2 (lcTurn2 (tg.ids ++ tg1.ids) tg fc fi1) (lcTurn tg1 fc1 fe) [] items s with
      | .ok ds s1 => .ok (.own ds) { s1 with t := backT s1.t s.t (tg.ids ++ tg1.ids) }
      | _ => .bad) : Res RV).run fun r s => putR i r s) := (ps_setLc2 (vs1 := tg1.ids) hc hN hy hyl hsw hi ok (fun i hi => by rw [ho]; exact List.mem_append_right _ hi) hg ht hi1 hg1 ht1 he hs hs1).mono fun D σ H ⟨b, al, s, R, P⟩ => by
  have P' := run_post (σ := σ) P
  refine pe_lc2' ho gt gt1 hgt hgt1 rfl σ H _ ⟨b, al, s, R, own_end P' fun r s1 q => ?_⟩
  dsimp only at q
  cases q1 : fi s with
  | ok items s2 =>
    rw [q1] at q
    simp only [Res.bind] at q
    split at q
    · cases q; exact ⟨_, rfl⟩
    · cases q
  | exc _ _ _ => rw [q1] at q; cases q
  | bad => rw [q1] at q; cases q
/-- name = a new list that is shared from then on -/
theorem ps_shr {i : Nat} {x : Str} {e : Expr} {f : S → Res RV} {pos pos' : Pos} (nd : X.N.Nodup) (h : NmOk X i x) (he : PE X e (rdE g W f)) (hs : swapsWith e (some (.Name x pos')) pos.line X.env = pure false) :
    PS X (.Assign [.Name x pos'] e pos) (rdS g W fun s => (f s).run fun r s => match r with
    | .own ds => .next { t := s.t.set i (some (.val (.ref s.h.length))), h := s.h ++ [ds] }
    | _ => .bad) := (ps_set nd h.ix h.loc he hs h.fn).mono fun D σ H ⟨b, al, s, R, P⟩ =>
  ⟨b, al, s, R, (run_post P).mono fun r s1 p v H1 x1 R1 rv => by
    cases r with
    | own ds =>
      obtain ⟨a, vs, rfl, h1, h2, h3, h4, h5⟩ := rv
      obtain ⟨R2, ax, ha⟩ := R1.share h1 h2 h3 h4 h5
      exact p (al ++ [a]) _ H1 ax x1.st (R2.setVal i (d := .ref s1.h.length) (by unfold Rep; exact ⟨a, ha, rfl⟩))
    | _ => exact p.elim⟩
/-- a tuple of names = e -/
theorem ps_setT {is : List Nat} {tge e : Expr} {f : S → Res RV} {pos : Pos} (hK : X.K = g.K) (nd : X.N.Nodup) (ht : TgE X (.tup is) tge) (he : PE X e (rdE g W f)) (hs : swapsWithSole [tge] e pos.line X.env = pure false) (hw : swappedStores [tge] e X.env = pure none) :
    PS X (.Assign [tge] e pos) (rdS g W fun s => (toV (f s)).run fun d s => match bindT (.tup is) d s with | some s => .next s | none => .bad) := by
  have h1 : (assignEach [tge] X.env).map (·.2) = [assign tge X.env] := by cases ht; rfl
  refine (ps_asg (pe_V he) (tg_pg nd ht) hs hw h1).mono fun D σ H ⟨b, al, s, R, P⟩ => ⟨b, al, s, R, (run_post P).mono fun d s1 p v H1 x1 R1 r1 => ?_⟩
  cases q : bindT (.tup is) d s1 with
  | none => rw [q] at p; exact p.elim
  | some s2 =>
    rw [q] at p
    exact tg_run hK (.tup is) b al s1 σ H1 d v s2 _ R1 r1 q fun σ2 R2 _ => p al σ2 H1 (AlX.refl al) x1.st R2
/-- a, b = e, f -/
theorem ps_parN {i j : Nat} {x y : Str} {ea eb : Expr} {fa fb : S → Res RV} {px py pt pos : Pos} {kt k2 : Nat} {pt2 : Pos} (hc : X.calm = true) (nd : X.N.Nodup) (hi : X.N[i]? = some x) (hj : X.N[j]? = some y) (hij : i ≠ j)
    (hx : X.env.scope.names.lookup x = some .local) (hy : X.env.scope.names.lookup y = some .local) (ha : PE X ea (rdE g W fa)) (hb : PE X eb (rdE g W fb)) (hsa : notStar ea = true) (hsb : notStar eb = true)
    (hw : swappedStores [.Tuple [.Name x px, .Name y py] kt pt] (.Tuple [ea, eb] k2 pt2) X.env = pure (some [x, y])) (hs : swapsWithSole [.Tuple [.Name x px, .Name y py] kt pt] (.Tuple [ea, eb] k2 pt2) pos.line X.env = pure false) :
    PS X (.Assign [.Tuple [.Name x px, .Name y py] kt pt] (.Tuple [ea, eb] k2 pt2) pos) (rdS g W fun s => (toV (fa s)).run fun x s => (toV (fb s)).run fun y s => .next { s with t := (s.t.set i (some (.val x))).set j (some (.val y)) }) := by
  have h1 : PA X [ea, eb] (rdA g W false fun s => (toV (fa s)).bind fun d s => ((toV (fb s)).bind fun d s => (Res.ok [] s : Res (List PI.D)).bind fun ds s => .ok (d :: ds) s).bind fun ds s => .ok (d :: ds) s) :=
    pa_cons' hsa (by exact pe_V ha) (pa_cons' hsb (by exact pe_V hb) pa_nil')
  refine (ps_par hc nd hi hj hij hx hy h1 hw hs).mono fun D σ H ⟨b, al, s, R, P⟩ => ⟨b, al, s, R, ?_⟩
  rw [postX_bind]
  refine (run_post P).mono fun d s1 p => ?_
  rw [postX_bind, postX_bind]
  refine (run_post p).mono fun d2 s2 p2 vs H1 x1 R1 rs => ?_
  simp only [Bool.false_eq_true, if_false] at rs
  obtain ⟨v, r, rfl, r1, rs⟩ := rs.inv
  obtain ⟨w, r, rfl, r2, rs⟩ := rs.inv
  rw [rs.inv0]
  exact ⟨v, w, rfl, p2 al _ H1 (AlX.refl al) x1.st ((R1.setVal i r1).setVal j r2)⟩
/-- name += e -/
theorem ps_augN {i : Nat} {x : Str} {e : Expr} {o : BOp} {f : S → Res RV} {op : Operator} {pos pos' : Pos} (nd : X.N.Nodup) (h : NmOk X i x) (he : PE X e (rdE g W f)) (ho : (o = .add ∧ op = .Add) ∨ (o = .sub ∧ op = .Sub)) :
    PS X (.AugAssign (.Name x pos') op e pos) (rdS g W fun s => (toP (slGet s i)).run fun x s => (toP (f s)).run fun y s => match augD o x y with
      | some z => .next { s with t := s.t.set i (some (.val (.int z))) }
      | none => .bad) := by
  have key : ∃ ti : TIp, PIp X op ti ∧ ∀ (x y : PI.D) (z : Int) (v u : V) (H : Hp) (Q : VK) (al : List Addr), augD o x y = some z → PRep g.K al H x v → PRep g.K al H y u → Q (.int z) H → ti v u H Q := by
    rcases ho with ⟨rfl, rfl⟩ | ⟨rfl, rfl⟩
    · refine ⟨_, ip_add, fun x y z v u H Q al e r1 r2 q => ?_⟩
      cases x <;> cases y <;> simp only [augD] at e <;> cases e
      exact ⟨_, _, r1.int, r2.int, q⟩
    · refine ⟨_, ip_sub, fun x y z v u H Q al e r1 r2 q => ?_⟩
      cases x <;> cases y <;> simp only [augD] at e <;> cases e
      exact ⟨_, _, r1.int, r2.int, q⟩
  obtain ⟨ti, hti, k⟩ := key
  refine (ps_aug nd h.ix h.loc (pe_P he) hti h.fn).mono fun D σ H ⟨b, al, s, R, P⟩ => ?_
  have P := run_post (σ := σ) P
  unfold toP at P
  rw [postX_bind] at P
  have P0 := P
  unfold slGet at P
  cases q : s.t[i]? with
  | none => rw [q] at P; exact P.elim
  | some sl =>
    cases sl with
    | none => rw [q] at P; exact P.elim
    | some sl =>
      obtain ⟨v, ev, rep⟩ := R.sl i sl q
      rw [q] at P
      refine ⟨v, ev, b, al, s, R, ?_⟩
      cases sl with
      | val d =>
        refine (run_post (show PostS g b W D al H _ from P)).mono fun y s1 p u H1 x1 R1 r1 => ?_
        cases qa : augD o d y with
        | none => rw [qa] at p; exact p.elim
        | some z =>
          rw [qa] at p
          exact k d y z v u H1 _ al qa (.inl (rep.stay x1.st fun _ _ z => z)) r1 (p al _ H1 (AlX.refl al) x1.st (R1.setVal i (by unfold Rep; rfl)))
      | own ds =>
        refine (run_post (show PostS g b W D al H _ from P)).mono fun y s1 p u H1 x1 R1 r1 => ?_
        have : augD o (.lst ds) y = none := by cases o <;> cases y <;> rfl
        rw [this] at p
        exact p.elim
      | dct ds => exact P.elim
      | ldk ds => exact P.elim
      | exc c d => exact P.elim
end
end PI

namespace PI
open PySem PySem.Spec PyProof.Rows L2
section
variable {X : Cx} {g : G} {b : B} {W : WX} {D : Ends} {al al' : List Addr} {σ : L2.St} {H H' : Hp} {s : S}
/-- what a store is aimed at -/
def Tgt (al : List Addr) (σ : L2.St) : RV → V → Prop
  | .val (.ref c), v => ∃ a, al[c]? = some a ∧ v = .ref a
  | .loc i _, v => σ[i]? = some (some v)
  | .ldc i _, v => σ[i]? = some (some v)
  | _, _ => True
theorem RVRep.tgt {r : RV} {v : V} (h : RVRep g b al s σ H r v) : Tgt al σ r v := by
  cases r with
  | val d =>
    cases d with
    | ref k => have h : Rep g.K al H (.ref k) v := h; unfold Rep at h; exact h
    | _ => exact trivial
  | own _ => exact trivial
  | dct _ => exact trivial
  | loc i ds => exact h.2
  | ldc i ds => exact h.2
def rSetD : V → V → V → Hp → (Hp → Prop) → Prop := fun o i v H Q => ∃ a H', o = .ref a ∧ DPut H a i v H' ∧ Q H'
theorem set_dict (hu : X.A.units + 1 < cLine) : PSet X rSetD := by
  intro pins s σ H o i v ov iv u Q I ro ri rv h
  obtain ⟨a, H', rfl, g, q⟩ := h
  cases ro
  exact d_setItem hu I g ri rv fun s' I' => ⟨H', I', q⟩
theorem set_or {t t' : TSet} (h : PSet X t) (h' : PSet X t') : PSet X (fun o i v H Q => t o i v H Q ∨ t' o i v H Q) := by
  intro pins s σ H o i v ov iv u Q I ro ri rv h0
  rcases h0 with h0 | h0
  · exact h pins s σ H o i v ov iv u Q I ro ri rv h0
  · exact h' pins s σ H o i v ov iv u Q I ro ri rv h0
theorem kV_of {k : PI.D} {q : Key} {v : V} (h : keyOf k = some q) (r : PRep g.K al H k v) : v = kV q := by
  cases k <;> simp only [keyOf] at h <;> cases h
  · exact r.int
  · exact r.str
theorem put_run {H0 : Hp} {r : RV} {k d : PI.D} {o i v : V} (R : Rel g b al s σ H) (tg : Tgt al σ r o) (rk : PRep g.K al H k i) (rd : Rep g.K al H d v) (P : PostS g b W D al H0 (putAt r k d s)) (st : Stay H0 H) :
    rSetL o i v H (D.nx σ) ∨ rSetD o i v H (D.nx σ) := by
  unfold putAt at P
  split at P
  · rename_i c
    obtain ⟨a, ha, rfl⟩ := tg
    split at P
    · rename_i k' ds e
      split at P
      · rename_i j hj
        obtain ⟨a', vs, e1, e2, e3⟩ := R.cell _ _ e
        rw [ha] at e1; cases e1
        refine .inl ⟨a, vs, _, j, rfl, rk.int, e2, by rw [← e3.length]; exact hj, ?_⟩
        have st2 := stay_lst (ws := vs.set j v) e2
        exact P al σ _ (AlX.refl al) (st.trans st2) (R.writeCell ha e2 (e3.set j rd))
      · exact P.elim
    · exact P.elim
  · rename_i ix ds0
    split at P
    · rename_i k' ds e
      split at P
      · rename_i j hj
        obtain ⟨w, ew, a, vs, rfl, e2, e3, e4, e5⟩ := R.sl ix _ e
        have tg : σ[ix]? = some (some o) := tg
        rw [ew] at tg; cases tg
        refine .inl ⟨a, vs, _, j, rfl, rk.int, e2, by rw [← e3.length]; exact hj, ?_⟩
        have st2 := stay_lst (ws := vs.set j v) e2
        exact P al σ _ (AlX.refl al) (st.trans st2) (R.writeOwn e ew e2 (e3.set j rd) e4 e5)
      · exact P.elim
    · exact P.elim
  · rename_i ix ds0
    split at P
    · rename_i q kvs eq e
      split at P
      · rename_i hl
        obtain ⟨w, ew, a, vs, rfl, e2, e3, e4, e5⟩ := R.sl ix _ e
        have tg : σ[ix]? = some (some o) := tg
        rw [ew] at tg; cases tg
        refine .inr ⟨a, _, rfl, .inl ⟨vs, q, e2, kV_of eq rk, by rw [← Paired.length e3, ← line_eq]; exact hl, rfl⟩, ?_⟩
        have st2 := stay_dK (ws := putK vs q v) e2
        exact P al σ _ (AlX.refl al) (st.trans st2) (R.writeDct e ew e2 (KRep.put e3 rd) e4 e5)
      · exact P.elim
    · exact P.elim
  · exact P.elim
theorem swapsSub {o i : Expr} {pos : Pos} {e : Expr} {l : Nat} {env : Env} : swapsWithSole [.Subscript o i pos] e l env = pure false := by
  show swapsWith e (some (.Subscript o i pos)) l env = pure false
  unfold swapsWith
  cases e <;> rfl
theorem swappedSub {o i : Expr} {pos : Pos} {e : Expr} {env : Env} : swappedStores [.Subscript o i pos] e env = pure none := by
  unfold swappedStores
  cases e <;> rfl
/-- x[i] = e -/
theorem ps_seti {eo ei e : Expr} {fo f fi : S → Res RV} {pos pos2 : Pos} (hu : X.A.units + 1 < cLine) (ho : PE X eo (rdE g W fo)) (hi : PE X ei (rdE g W fi)) (he : PE X e (rdE g W f)) (hn : notSlice ei = true) :
    PS X (.Assign [.Subscript eo ei pos2] e pos) (rdS g W fun s => (toV (f s)).run fun d s => (fo s).run fun r s => (toP (fi s)).run fun k s => putAt r k d s) := by
  have ha : ∀ v, assign (.Subscript eo ei pos2) X.env v = (do
      let ov ← holding [v] (eval eo X.env)
      let iv ← holding [v, ov] (eval ei X.env)
      standAt pos2
      holding [v, ov, iv] (setItem ov iv v)
      release [v, ov, iv] []) := by intro v; cases ei <;> first | rfl | (cases hn)
  refine (ps_asg (pe_V he) (pg_sub ho (pe_P hi) (set_or set_list (set_dict hu)) ha) swapsSub swappedSub rfl).mono fun D σ H ⟨b, al, s, R, P⟩ => ⟨b, al, s, R, ?_⟩
  refine (run_post P).mono fun d s1 p v H1 x1 R1 r1 => ⟨b, al, s1, R1, ?_⟩
  refine (run_post p).shift x1 fun r s2 p2 o H2 x2 R2 rv => ⟨b, al, s2, R2, ?_⟩
  refine (run_post p2).shift (x1.trans x2) fun k s3 p3 i H3 x3 R3 rk => ?_
  exact put_run R3 rv.tgt rk ((r1.stay x2.st fun _ _ z => z).stay x3.st fun _ _ z => z) p3 ((x1.trans x2).trans x3).st
/-- x.append(e) -/
theorem push_run {H0 : Hp} {r : RV} {d : PI.D} {o v : V} (R : Rel g b al s σ H) (tg : Tgt al σ r o) (rd : Rep g.K al H d v) (P : PostS g b W D al H0 (pushAt r d s)) (st : Stay H0 H) :
    rAppend o [v] H fun _ H1 => D.nx σ H1 := by
  unfold pushAt at P
  split at P
  · rename_i c
    obtain ⟨a, ha, rfl⟩ := tg
    split at P
    · rename_i ds e
      split at P
      · rename_i hl
        obtain ⟨a', vs, e1, e2, e3⟩ := R.cell _ _ e
        rw [ha] at e1; cases e1
        refine ⟨a, vs, v, rfl, rfl, e2, by rw [← e3.length, ← line_eq]; exact hl, ?_⟩
        have st2 := stay_lst (ws := vs ++ [v]) e2
        exact P al σ _ (AlX.refl al) (st.trans st2) (R.writeCell ha e2 (e3.append (Reps.cons rd Reps.nil)))
      · exact P.elim
    · exact P.elim
  · rename_i ix ds0
    split at P
    · rename_i ds e
      split at P
      · rename_i hl
        obtain ⟨w, ew, a, vs, rfl, e2, e3, e4, e5⟩ := R.sl ix _ e
        have tg : σ[ix]? = some (some o) := tg
        rw [ew] at tg; cases tg
        refine ⟨a, vs, v, rfl, rfl, e2, by rw [← e3.length, ← line_eq]; exact hl, ?_⟩
        have st2 := stay_lst (ws := vs ++ [v]) e2
        exact P al σ _ (AlX.refl al) (st.trans st2) (R.writeOwn e ew e2 (e3.append (Reps.cons rd Reps.nil)) e4 e5)
      · exact P.elim
    · exact P.elim
  · exact P.elim
theorem lst_ty {K : PySem.W.Frag} {r : RV} {o : V} (R : Rel g b al s σ H) (rv : RVRep g b al s σ H r o) (hl : isLst r = true) : tyV K "list" o H := by
  unfold isLst at hl
  split at hl
  · have rv : Rep g.K al H (.ref _) o := rv
    unfold Rep at rv
    obtain ⟨a, ha, rfl⟩ := rv
    obtain ⟨vs, e⟩ := R.alTracked (List.mem_of_getElem? ha)
    exact .inl ⟨rfl, vs, .inl (.of e)⟩
  · obtain ⟨a, vs, rfl, e2, _⟩ := R.own rv.1 rv.2
    exact .inl ⟨rfl, vs, .inl (.of e2)⟩
  · cases hl
theorem ps_app {eo e : Expr} {fo f : S → Res RV} {apos cpos pos : Pos} (ho : PE X eo (rdE g W fo)) (he : PE X e (rdE g W f)) (hs : notStar e = true) (hc : notCall0 eo = true) (hl : (apos.endLine == cpos.line) = true) :
    PS X (.Expr (.Call (.Attribute eo "append" apos) [e] [] cpos) pos) (rdS g W fun s => (fo s).run fun r s => if isLst r then (toV (f s)).run fun d s => pushAt r d s else .bad) := by
  have ha : PA X [e] (rdA g W false fun s => (toV (f s)).bind fun d s => (Res.ok [] s : Res (List PI.D)).bind fun ds s => .ok (d :: ds) s) := pa_cons' hs (by exact pe_V he) pa_nil'
  have hst := star_cons hs [] X.env
  refine (ps_expr (pe_bm PySem.F.plainAttrs_list PySem.F.slot_list_append PySem.F.type_list_append mt_append ho ha (attrBase hc _ _ _) (by rw [hst]; rfl) hl hst rfl) (by unfold swapsWith; rfl)).mono fun D σ H ⟨b, al, s, R, P⟩ => ⟨b, al, s, R, ?_⟩
  refine (run_post P).mono fun r s1 p o H1 x1 R1 rv => ?_
  cases hr : isLst r with
  | false => rw [hr] at p; exact p.elim
  | true =>
    rw [hr] at p
    refine ⟨lst_ty R1 rv hr, b, al, s1, R1, ?_⟩
    rw [postX_bind]
    refine (run_post (show PostS g b W D al H ((toV (f s1)).run fun d s => pushAt r d s) from p)).shift x1 fun d s2 p2 vs H2 x2 R2 rs => ?_
    simp only [Bool.false_eq_true, if_false] at rs
    obtain ⟨v, t, rfl, r1, rs⟩ := rs.inv
    rw [rs.inv0]
    exact push_run R2 rv.tgt r1 p2 (x1.trans x2).st
/-- x.extend(es) -/
theorem pushAll_run {H0 : Hp} {r : RV} {ds2 : List PI.D} {o : V} {a2 : Addr} {vs2 : List V} (R : Rel g b al s σ H) (tg : Tgt al σ r o) (h2 : H a2 = some (.lst vs2)) (rd : Reps g.K al H ds2 vs2) (P : PostS g b W D al H0 (pushAll r ds2 s)) (st : Stay H0 H) :
    rExtend o [.ref a2] H fun _ H1 => D.nx σ H1 := by
  unfold pushAll at P
  split at P
  · rename_i c
    obtain ⟨a, ha, rfl⟩ := tg
    split at P
    · rename_i ds e
      split at P
      · rename_i hl
        obtain ⟨a', vs, e1, e2, e3⟩ := R.cell _ _ e
        rw [ha] at e1; cases e1
        refine ⟨a, a2, vs, vs2, rfl, rfl, e2, h2, by rw [← e3.length, ← rd.length, ← line_eq]; exact hl, ?_⟩
        have st2 := stay_lst (ws := vs ++ vs2) e2
        exact P al σ _ (AlX.refl al) (st.trans st2) (R.writeCell ha e2 (e3.append rd))
      · exact P.elim
    · exact P.elim
  · rename_i ix ds0
    split at P
    · rename_i ds e
      split at P
      · rename_i hl
        obtain ⟨w, ew, a, vs, rfl, e2, e3, e4, e5⟩ := R.sl ix _ e
        have tg : σ[ix]? = some (some o) := tg
        rw [ew] at tg; cases tg
        refine ⟨a, a2, vs, vs2, rfl, rfl, e2, h2, by rw [← e3.length, ← rd.length, ← line_eq]; exact hl, ?_⟩
        have st2 := stay_lst (ws := vs ++ vs2) e2
        exact P al σ _ (AlX.refl al) (st.trans st2) (R.writeOwn e ew e2 (e3.append rd) e4 e5)
      · exact P.elim
    · exact P.elim
  · exact P.elim
theorem ps_ext {eo e : Expr} {fo f : S → Res RV} {apos cpos pos : Pos} (ho : PE X eo (rdE g W fo)) (he : PE X e (rdE g W f)) (hs : notStar e = true) (hc : notCall0 eo = true) (hl : (apos.endLine == cpos.line) = true) :
    PS X (.Expr (.Call (.Attribute eo "extend" apos) [e] [] cpos) pos) (rdS g W fun s => (fo s).run fun r s => if isLst r then (f s).run fun r2 s => match r2.items with
      | some es => pushAll r es s
      | none => .bad
    else .bad) := by
  have hst := star_cons hs [] X.env
  have ha : PA X [e] (tCons (rdE g W f) tNil) := pa_cons he pa_nil hst
  refine (ps_expr (pe_bm PySem.F.plainAttrs_list PySem.F.slot_list_extend PySem.F.type_list_extend mt_extend ho ha (attrBase hc _ _ _) (by rw [hst]; rfl) hl hst rfl) (by unfold swapsWith; rfl)).mono fun D σ H ⟨b, al, s, R, P⟩ => ⟨b, al, s, R, ?_⟩
  refine (run_post P).mono fun r s1 p o H1 x1 R1 rv => ?_
  cases hr : isLst r with
  | false => rw [hr] at p; exact p.elim
  | true =>
    rw [hr] at p
    refine ⟨lst_ty R1 rv hr, b, al, s1, R1, ?_⟩
    refine (run_post (show PostS g b W D al H ((f s1).run fun r2 s => match r2.items with
      | some es => pushAll r es s
      | none => .bad) from p)).shift x1 fun r2 s2 p2 v H2 x2 R2 rv2 => ?_
    cases r2 with
    | own es =>
      obtain ⟨a2, vs2, rfl, h2, h3, _⟩ := rv2
      exact pushAll_run R2 rv.tgt h2 h3 p2 (x1.trans x2).st
    | loc j es =>
      obtain ⟨a2, vs2, rfl, h2, h3, _⟩ := R2.own rv2.1 rv2.2
      exact pushAll_run R2 rv.tgt h2 h3 p2 (x1.trans x2).st
    | _ => exact p2.elim
/-- x.pop() -/
theorem reps_dropLast {K : PySem.W.Frag} {al : List Addr} {H : Hp} : ∀ {ds : List PI.D} {vs : List V}, Reps K al H ds vs → Reps K al H ds.dropLast vs.dropLast := fun {ds vs} h => by
  rw [List.dropLast_eq_take, List.dropLast_eq_take, h.length]
  exact h.take _
theorem pop_run {H0 : Hp} {r : RV} {o : V} (R : Rel g b al s σ H) (tg : Tgt al σ r o) (P : PostS g b W D al H0 (popAt r s)) (st : Stay H0 H) :
    rPop o [] H fun _ H1 => D.nx σ H1 := by
  unfold popAt at P
  split at P
  · rename_i c
    obtain ⟨a, ha, rfl⟩ := tg
    split at P
    · rename_i ds e
      split at P
      · rename_i hl
        obtain ⟨a', vs, e1, e2, e3⟩ := R.cell _ _ e
        rw [ha] at e1; cases e1
        have hv : vs.length - 1 < vs.length := by have := e3.length; omega
        refine ⟨a, vs, vs[vs.length - 1], rfl, rfl, e2, List.getElem?_eq_getElem hv, ?_⟩
        have st2 := stay_lst (ws := vs.dropLast) e2
        exact P al σ _ (AlX.refl al) (st.trans st2) (R.writeCell ha e2 (reps_dropLast e3))
      · exact P.elim
    · exact P.elim
  · rename_i ix ds0
    split at P
    · rename_i ds e
      split at P
      · rename_i hl
        obtain ⟨w, ew, a, vs, rfl, e2, e3, e4, e5⟩ := R.sl ix _ e
        have tg : σ[ix]? = some (some o) := tg
        rw [ew] at tg; cases tg
        have hv : vs.length - 1 < vs.length := by have := e3.length; omega
        refine ⟨a, vs, vs[vs.length - 1], rfl, rfl, e2, List.getElem?_eq_getElem hv, ?_⟩
        have st2 := stay_lst (ws := vs.dropLast) e2
        exact P al σ _ (AlX.refl al) (st.trans st2) (R.writeOwn e ew e2 (reps_dropLast e3) e4 e5)
      · exact P.elim
    · exact P.elim
  · exact P.elim
theorem pop_lst {r : RV} {s : S} {H0 : Hp} (P : PostS g b W D al H0 (popAt r s)) : isLst r = true := by
  unfold popAt at P
  split at P
  · rfl
  · rfl
  · exact P.elim
theorem ps_pop {eo : Expr} {fo : S → Res RV} {apos cpos pos : Pos} (ho : PE X eo (rdE g W fo)) (hc : notCall0 eo = true) (hl : (apos.endLine == cpos.line) = true) :
    PS X (.Expr (.Call (.Attribute eo "pop" apos) [] [] cpos) pos) (rdS g W fun s => (fo s).run fun r s => popAt r s) := by
  refine (ps_expr (pe_bm0 PySem.F.plainAttrs_list PySem.F.slot_list_pop PySem.F.type_list_pop mt_pop ho (attrBase hc _ _ _) hl) (by unfold swapsWith; rfl)).mono fun D σ H ⟨b, al, s, R, P⟩ => ⟨b, al, s, R, ?_⟩
  refine (run_post P).mono fun r s1 p o H1 x1 R1 rv => ?_
  exact ⟨lst_ty R1 rv (pop_lst p), pop_run R1 rv.tgt p x1.st⟩
/-- raise c(e) -/
theorem smallV {d : PI.D} {v : V} (h : smallD d = true) (r : Rep g.K al H d v) : SmallV v := by
  cases d with
  | str x => unfold Rep at r; subst r; exact (of_decide_eq_true (show decide (x.length ≤ 1000) = true from h) : x.length ≤ 1000)
  | _ => cases h
theorem ps_raise' {x : Str} {c : Nat} {e : Expr} {f : S → Res RV} {lv : Nat} {p p2 pos : Pos} (hc : X.calm = true) (tk : Takes X W) (hr : Room lv X.A) (mk : MkOk X.prog X.K X.mg (g.C c) (g.F c) x) (hg : Gl X x) (hs : notStar e = true) (he : PE X e (rdE g W f)) :
    PS X (.Raise (some (.Call (.Name x p) [e] [] p2)) none pos) (rdS g W fun s => (toV (f s)).run fun d s => if smallD d then .exc c d s else .bad) := by
  have ha : PA X [e] (rdA g W false fun s => (toV (f s)).bind fun d s => (Res.ok [] s : Res (List PI.D)).bind fun ds s => .ok (d :: ds) s) := pa_cons' hs (by exact pe_V he) pa_nil'
  refine (ps_raise hc tk (mk X lv e _ p p2 rfl rfl rfl hr hg hs ha)).mono fun D σ H ⟨b, al, s, R, P⟩ => ⟨b, al, s, R, ?_⟩
  rw [postX_bind]
  refine (run_post P).mono fun d s1 p vs H1 x1 R1 rs => ?_
  simp only [Bool.false_eq_true, if_false] at rs
  obtain ⟨v, t, rfl, r1, rs⟩ := rs.inv
  rw [rs.inv0]
  cases hd : smallD d with
  | false => rw [hd] at p; exact p.elim
  | true =>
    rw [hd] at p
    refine ⟨v, rfl, smallV hd r1, fun dd hdd => ?_⟩
    have st := stay_upd (o := .xd [(g.F c, v)]) hdd
    exact p al σ _ dd _ (AlX.refl al) (x1.st.trans st) (R1.alloc hdd) ⟨rfl, v, upd_same, r1.stay st fun _ _ z => z⟩
end

/-! ### try -/
section
variable {X : Cx} {g : G} {b : B} {W : WX} {D : Ends} {al al' : List Addr} {σ : L2.St} {H H' : Hp} {s : S}
def G.held (g : G) (a : Addr) (cls : Value) (d : Option Addr) : G := { g with ea := some (a, cls, d) }
theorem calm_get {t : List (Option Sl)} {j : Nat} {x : Sl} (h : (t.map Sl.calm)[j]? = some (some x)) : t[j]? = some (some x) ∧ ∀ c d, x ≠ .exc c d := by
  rw [List.getElem?_map] at h
  cases e : t[j]? with
  | none => rw [e] at h; cases h
  | some o =>
    rw [e] at h
    cases o with
    | none => cases h
    | some y =>
      cases y with
      | exc c d => cases h
      | val d => cases h; exact ⟨rfl, fun _ _ z => nomatch z⟩
      | own d => cases h; exact ⟨rfl, fun _ _ z => nomatch z⟩
      | dct d => cases h; exact ⟨rfl, fun _ _ z => nomatch z⟩
      | ldk d => cases h; exact ⟨rfl, fun _ _ z => nomatch z⟩
theorem Rel.calm (r : Rel g b al s σ H) : Rel g b al (noExc s) σ H := r.less (by rw [List.length_map]; exact r.len) fun j x e => ⟨(calm_get e).1, rfl⟩
/-- the held error is another; no slot names one -/
theorem Rel.swapG {g' : G} (hK : g'.K = g.K) (hl : g'.lk = g.lk) (r : Rel g b al s σ H) (h : ∀ (j : Nat) (x : Sl), s.t[j]? = some (some x) → ∀ c d, x ≠ Sl.exc c d) : Rel g' b al s σ H := by
  obtain ⟨K, C, F, ea, lk⟩ := g
  obtain ⟨K', C', F', ea', lk'⟩ := g'
  cases hK
  cases hl
  refine ⟨r.len, fun i x e => ?_, r.inj, r.cell, r.alen, r.nd, r.base, r.anew, r.apre⟩
  obtain ⟨v, e1, q⟩ := r.sl i x e
  refine ⟨v, e1, ?_⟩
  cases x with
  | exc c d => exact absurd rfl (h i _ e c d)
  | val _ => exact q
  | own _ => exact q
  | dct _ => exact q
  | ldk _ => exact q
theorem Rel.setNone (r : Rel g b al s σ H) (i : Nat) : Rel g b al { s with t := s.t.set i none } (σ.set i none) H := r.less (by rw [List.length_set, List.length_set]; exact r.len) fun j x e => by
  rcases get_set e with ⟨rfl, e2, hl⟩ | ⟨hj, e2⟩
  · cases e2
  · exact ⟨e2, by rw [List.getElem?_set_ne hj]⟩
theorem Rel.setExc {c : Nat} {d : PI.D} {a dd : Addr} {cls : Value} (r : Rel g b al s σ H) (i : Nat) (er : ExcRep g al H c d cls dd) :
    Rel (g.held a cls (some dd)) b al { s with t := (noExc s).t.set i (some (.exc c d)) } (σ.set i (some (.ref a))) H := by
  have R2 : Rel (g.held a cls (some dd)) b al (noExc s) σ H := Rel.swapG (g := g) rfl rfl r.calm fun j x e => (calm_get e).2
  refine ⟨by rw [List.length_set, List.length_set]; exact R2.len, fun j x e => ?_, fun j k x y c' hjk ej ek ox oy e1 => ?_, r.cell, r.alen, r.nd, r.base, r.anew, r.apre⟩
  · rcases get_set e with ⟨rfl, e2, hl⟩ | ⟨hj, e2⟩
    · cases e2
      obtain ⟨rfl, w, e3, e4⟩ := er
      exact ⟨_, by rw [List.getElem?_set_self (by rw [← R2.len]; exact hl)], a, dd, w, rfl, rfl, e3, e4⟩
    · rw [List.getElem?_set_ne hj]
      exact R2.sl j x e2
  · rcases get_set ej with ⟨rfl, e2, hl⟩ | ⟨hj, e2⟩
    · cases e2; cases ox
    rcases get_set ek with ⟨rfl, e3, hl⟩ | ⟨hk, e3⟩
    · cases e3; cases oy
    rw [List.getElem?_set_ne hj] at e1
    rw [List.getElem?_set_ne hk]
    exact R2.inj j k x y c' hjk e2 e3 ox oy e1
theorem Rel.leave {a : Addr} {cls : Value} {d : Option Addr} (r : Rel (g.held a cls d) b al s σ H) (i : Nat) : Rel g b al (outExc i s) (σ.set i none) H :=
  (Rel.swapG (g := g.held a cls d) (g' := g) rfl rfl r.calm fun j x e => (calm_get e).2).setNone i
/-- a handler's slot, suite -/
structure HP where
  cs : List Nat
  no : List Nat
  i : Nat
  f : S → R
def runH (c : Nat) (d : PI.D) : List HP → S → R
  | [], s => .exc c d s
  | h :: r, s => if h.cs.contains c then
      match h.f { s with t := (noExc s).t.set h.i (some (.exc c d)) } with
      | .next s => .next (outExc h.i s)
      | .brk s => .brk (outExc h.i s)
      | .cnt s => .cnt (outExc h.i s)
      | .ret (.val d) s => .ret (.val d) (outExc h.i s)
      | .ret (.own ds) s => .ret (.own ds) (outExc h.i s)
      | _ => .bad
    else if h.no.contains c then runH c d r s else .bad
def tsOf (g : G) (h : HP) : Addr → Value → Option Addr → TS := fun a cls d => fun D σ H => ∃ k dd, cls = .ref (g.C k) ∧ d = some dd ∧ h.cs.contains k = true ∧ rdS (g.held a cls d) W0 h.f D σ H
theorem away_out {i : Nat} {a : Addr} (h : Away s.t σ a) : Away (outExc i s).t (σ.set i none) a := fun j x e o z => by
  rcases get_set e with ⟨rfl, e2, hl⟩ | ⟨hj, e2⟩
  · cases e2
  · rw [List.getElem?_set_ne hj] at z
    exact h j x (calm_get e2).1 o z
theorem runH_ok {c : Nat} {d : PI.D} {cls : Value} {dd : Addr} : ∀ (l : List (Value × HP)),
    (∀ p ∈ l, (∀ k ∈ p.2.cs, PySem.W.exmOne g.K (.ref (g.C k)) p.1 = some true) ∧ ∀ k ∈ p.2.no, PySem.W.exmOne g.K (.ref (g.C k)) p.1 = some false) →
    PostS g b W D al H (runH c d (l.map (·.2)) s) → Stay H H' → AlX al al' → Rel g b al' s σ H' → ExcRep g al' H' c d cls dd →
    wManyA g.K W D (l.map fun p => (p.1, p.2.i, tsOf g p.2)) cls (some dd) σ H'
  | [], hx, P, st, ax, R, er => P al' σ cls dd H' ax st R er
  | (v, h) :: l, hx, P, st, ax, R, er => by
    have hxh := hx _ List.mem_cons_self
    rw [List.map_cons] at P
    unfold runH at P
    obtain ⟨ec, er2⟩ := id er
    show ∃ b, _
    cases hc : h.cs.contains c with
    | true =>
      refine ⟨true, by rw [ec]; exact hxh.1 c (by simpa using hc), fun _ a ha => ?_, fun z => by cases z⟩
      rw [hc] at P
      refine ⟨c, dd, ec, rfl, hc, b, al', _, R.setExc h.i er, ?_⟩
      have P : PostS g b W D al H (match h.f { s with t := (noExc s).t.set h.i (some (.exc c d)) } with
        | .next s => .next (outExc h.i s)
        | .brk s => .brk (outExc h.i s)
        | .cnt s => .cnt (outExc h.i s)
        | .ret (.val d) s => .ret (.val d) (outExc h.i s)
        | .ret (.own ds) s => .ret (.own ds) (outExc h.i s)
        | _ => .bad) := P
      cases q : h.f { s with t := (noExc s).t.set h.i (some (.exc c d)) } with
      | next s2 => rw [q] at P; exact fun al2 σ2 H2 a2 x2 R2 => P al2 _ H2 (ax.trans a2) (st.trans x2) (R2.leave h.i)
      | brk s2 => rw [q] at P; exact fun al2 σ2 H2 a2 x2 R2 => P al2 _ H2 (ax.trans a2) (st.trans x2) (R2.leave h.i)
      | cnt s2 => rw [q] at P; exact fun al2 σ2 H2 a2 x2 R2 => P al2 _ H2 (ax.trans a2) (st.trans x2) (R2.leave h.i)
      | ret r s2 =>
        rw [q] at P
        cases r with
        | val e => exact fun al2 σ2 u H2 a2 x2 R2 rv => P al2 _ u H2 (ax.trans a2) (st.trans x2) (R2.leave h.i) rv
        | own ds => exact fun al2 σ2 u H2 a2 x2 R2 rv => P al2 _ u H2 (ax.trans a2) (st.trans x2) (R2.leave h.i) (by
            obtain ⟨a3, vs, h1, h2, h3, h4, h5, h6⟩ := rv
            exact ⟨a3, vs, h1, h2, h3, h4, h5, away_out h6⟩)
        | _ => exact P.elim
      | exc c2 d2 s2 => rw [q] at P; exact P.elim
      | bad => rw [q] at P; exact P.elim
    | false =>
      rw [hc] at P
      cases hn : h.no.contains c with
      | true =>
        rw [hn] at P
        refine ⟨false, by rw [ec]; exact hxh.2 c (by simpa using hn), fun z => (by cases z), fun _ => runH_ok l (fun p hp => hx p (List.mem_cons_of_mem _ hp)) P st ax R er⟩
      | false =>
        rw [hn] at P
        exact P.elim
theorem ps_try' {body : List Stmt} {h₀ : ExceptHandler} {hds : List ExceptHandler} {l : List (Value × HP)} {fb : S → R} {pos : Pos} (hK : X.K = g.K) (hs : X.stack = X.env :: X.outer) (hf : X.env.frame = some X.env.locals) (hN : X.N.Nodup) (tk : Takes X W)
    (hx : ∀ p ∈ l, (∀ k ∈ p.2.cs, PySem.W.exmOne g.K (.ref (g.C k)) p.1 = some true) ∧ ∀ k ∈ p.2.no, PySem.W.exmOne g.K (.ref (g.C k)) p.1 = some false)
    (hb : ∀ (W : WX) (pn : List (Addr × Obj)) (xe : Value → Shared → Prop), Takes (X.tr pn xe) W → PassesOwn (model X.prog X.w) X.A X.env xe → PSs (X.tr pn xe) body (rdS g W fb))
    (hh : HdsA X (h₀ :: hds) (l.map fun p => (p.1, p.2.i, tsOf g p.2))) :
    PS X (.Try body (h₀ :: hds) [] [] pos) (rdS g W fun s => match fb s with | .exc c d s => runH c d (l.map (·.2)) s | r => r) :=
  (ps_try_manyA (tb := fun W => rdS g W fb) hs hf hN tk hb hh).mono fun D σ H ⟨b, al, s, R, P⟩ => ⟨b, al, s, R, by
    dsimp only at P
    cases q : fb s with
    | next s1 => rw [q] at P; exact P
    | brk s1 => rw [q] at P; exact P
    | cnt s1 => rw [q] at P; exact P
    | ret r s1 => rw [q] at P; exact P
    | bad => rw [q] at P; exact P
    | exc c d s1 =>
      rw [q] at P
      intro al' σ' cls dd H' ax st R' er
      rw [hK]
      exact runH_ok l hx P st ax R' er⟩
end
end PI

namespace PI
open PySem PySem.Spec PyProof.Rows L2
section
variable {X : Cx} {g : G} {b : B} {W : WX} {D : Ends} {al al' : List Addr} {σ : L2.St} {H H' : Hp} {s : S}
/-! ### o[i] op= e -/
def rGetL (K : PySem.W.Frag) : V → V → Hp → VK → Prop := fun o i H Q => ∃ p xs k w, o = .ref p ∧ i = .int k ∧ SqL K H p xs ∧ atI xs k = some w ∧ Q w H
theorem pget_list : PGet X (rGetL X.K) := by
  intro pins s σ H o i ov iv Q I ro ri h
  obtain ⟨p, xs, k, w, rfl, rfl, hq, he, q⟩ := h
  cases ro
  obtain ⟨t, rfl⟩ := ri
  obtain ⟨its, rs, pl, hz⟩ := I.list hq
  obtain ⟨j, j1, j2, j3, j4, j5⟩ := atI_get he
  obtain ⟨u, eu, ru⟩ := rs.get j2
  have hl := rs.length
  have hn := line63
  by_cases h0 : 0 ≤ k
  · have hj : k.toNat = j := by rw [seqIndex_of h0 j5] at j1; exact Option.some.inj j1
    exact wpAny_getItem_list pl.isList h0 (by omega) (by rw [hj]; simpa using eu) ⟨w, H, I, ru, q⟩
  · have hj : (k + (its.toArray.size : Int)).toNat = j := by
      rw [seqIndex_neg (by omega) j4] at j1
      rw [List.size_toArray, ← hl]; exact Option.some.inj j1
    exact wpAny_getItem_list_neg pl.isList (by omega) (by rw [List.size_toArray] <;> omega) (by omega) (by rw [hj]; simpa using eu) ⟨w, H, I, ru, q⟩
def rGetD : V → V → Hp → VK → Prop := fun o i H Q => ∃ a w, o = .ref a ∧ DGet H a i (some w) ∧ Q w H
theorem pget_dict (hu : X.A.units + 1 < cLine) : PGet X rGetD := by
  intro pins s σ H o i ov iv Q I ro ri h
  obtain ⟨a, w, rfl, hd, q⟩ := h
  cases ro
  exact d_getItem hu I hd ri fun w' s3 I3 rw' => ⟨w, H, I3, rw', q⟩
theorem pget_or {t t' : V → V → Hp → VK → Prop} (h : PGet X t) (h' : PGet X t') : PGet X (fun o i H Q => t o i H Q ∨ t' o i H Q) := by
  intro pins s σ H o i ov iv Q I ro ri h0
  rcases h0 with h0 | h0
  · exact h pins s σ H o i ov iv Q I ro ri h0
  · exact h' pins s σ H o i ov iv Q I ro ri h0
theorem get_run {r : RV} {k d : PI.D} {o i : V} {Q : VK} (hK : X.K = g.K) (R : Rel g b al s σ H) (tg : Tgt al σ r o) (rk : PRep g.K al H k i) (e : getAt r k s = some d) (q : ∀ w, Rep g.K al H d w → Q w H) :
    rGetL X.K o i H Q ∨ rGetD o i H Q := by
  unfold getAt at e
  split at e
  · rename_i c
    obtain ⟨a, ha, rfl⟩ := tg
    split at e
    · rename_i k' ds e0
      obtain ⟨a', vs, e1, e2, e3⟩ := R.cell _ _ e0
      rw [ha] at e1; cases e1
      obtain ⟨w, e4, e5⟩ := e3.at e
      exact .inl ⟨a, vs, _, w, rfl, rk.int, .of e2, e4, q w e5⟩
    · cases e
  · rename_i ix ds0
    split at e
    · rename_i k' ds e0
      obtain ⟨w0, ew, a, vs, rfl, e2, e3, e4, e5⟩ := R.sl ix _ e0
      have tg : σ[ix]? = some (some o) := tg
      rw [ew] at tg; cases tg
      obtain ⟨w, e6, e7⟩ := e3.at e
      exact .inl ⟨a, vs, _, w, rfl, rk.int, .of e2, e6, q w e7⟩
    · cases e
  · rename_i ix ds0
    split at e
    · rename_i qk kvs eq e0
      obtain ⟨w0, ew, a, vs, rfl, e2, e3, e4, e5⟩ := R.sl ix _ e0
      have tg : σ[ix]? = some (some o) := tg
      rw [ew] at tg; cases tg
      rcases e3.get qk with ⟨d', w, g1, g2, g3⟩ | ⟨g1, g2⟩
      · rw [e] at g1; cases g1
        exact .inr ⟨a, w, rfl, .inl ⟨vs, qk, .inl e2, kV_of eq rk, g2.symm⟩, q w g3⟩
      · rw [e] at g1; cases g1
    · cases e
  · cases e
theorem ps_augi {eo ei e : Expr} {fo f fi : S → Res RV} {o : BOp} {op : Operator} {tpos pos : Pos} (hK : X.K = g.K) (hu : X.A.units + 1 < cLine) (ho : PE X eo (rdE g W fo)) (hi : PE X ei (rdE g W fi)) (he : PE X e (rdE g W f)) (hn : notSlice ei = true)
    (hop : (o = .add ∧ op = .Add) ∨ (o = .sub ∧ op = .Sub)) :
    PS X (.AugAssign (.Subscript eo ei tpos) op e pos) (rdS g W fun s => (fo s).run fun r s => (toP (fi s)).run fun k s => match getAt r k s with
      | none => .bad
      | some a => (toP (f s)).run fun y s => match augD o a y with
        | some z => putAt r k (.int z) s
        | none => .bad) := by
  have key : ∃ ti : TIp, PIp X op ti ∧ ∀ (x y : PI.D) (z : Int) (v u : V) (H : Hp) (Q : VK) (al : List Addr), augD o x y = some z → PRep g.K al H x v → PRep g.K al H y u → Q (.int z) H → ti v u H Q := by
    rcases hop with ⟨rfl, rfl⟩ | ⟨rfl, rfl⟩
    · refine ⟨_, ip_add, fun x y z v u H Q al e r1 r2 q => ?_⟩
      cases x <;> cases y <;> simp only [augD] at e <;> cases e
      exact ⟨_, _, r1.int, r2.int, q⟩
    · refine ⟨_, ip_sub, fun x y z v u H Q al e r1 r2 q => ?_⟩
      cases x <;> cases y <;> simp only [augD] at e <;> cases e
      exact ⟨_, _, r1.int, r2.int, q⟩
  obtain ⟨ti, hti, kt⟩ := key
  have ha : ∀ ov iv new, augStore ei ov iv new = (do holding [new, ov, iv] (setItem ov iv new); release [new, ov, iv] []; pure .next) := by intro ov iv new; cases ei <;> first | rfl | (cases hn)
  refine (ps_augS ho (pe_P hi) (pget_or pget_list (pget_dict hu)) (pe_P he) hti (set_or set_list (set_dict hu)) ha).mono fun D σ H ⟨b, al, s, R, P⟩ => ⟨b, al, s, R, ?_⟩
  refine (run_post P).mono fun r s1 p ov H1 x1 R1 rv => ⟨b, al, s1, R1, ?_⟩
  refine (run_post p).shift x1 fun k s2 p2 iv H2 x2 R2 rk => ?_
  cases eg : getAt r k s2 with
  | none => rw [eg] at p2; exact p2.elim
  | some a =>
    rw [eg] at p2
    refine get_run hK R2 rv.tgt rk eg fun w rw' => ⟨b, al, s2, R2, ?_⟩
    refine (run_post (show PostS g b W D al H ((toP (f s2)).run fun y s => match augD o a y with
        | some z => putAt r k (.int z) s
        | none => .bad) from p2)).shift (x1.trans x2) fun y s3 p3 u H3 x3 R3 ry => ?_
    cases ea : augD o a y with
    | none => rw [ea] at p3; exact p3.elim
    | some z =>
      rw [ea] at p3
      refine kt a y z w u H3 _ al ea (.inl (rw'.stay x3.st fun _ _ z => z)) ry ?_
      exact put_run R3 rv.tgt (rk.ext x3) (by unfold Rep; rfl) p3 ((x1.trans x2).trans x3).st
/-! ### x.append(y.pop(i)) -/
theorem reps_erase {K : PySem.W.Frag} {al : List Addr} {H : Hp} : ∀ {ds : List PI.D} {vs : List V} (n : Nat), Reps K al H ds vs → Reps K al H (ds.eraseIdx n) (vs.eraseIdx n)
  | [], vs, n, h => by rw [h.inv0]; exact Reps.nil
  | d :: ds, vs, 0, h => by
    obtain ⟨v, r, e, z, t⟩ := h.inv
    subst e
    exact t
  | d :: ds, vs, n + 1, h => by
    obtain ⟨v, r, e, z, t⟩ := h.inv
    subst e
    exact Reps.cons z (reps_erase n t)
theorem ps_appop {eo ey ei : Expr} {fo fy fi : S → Res RV} {apos cpos apos2 cpos2 pos : Pos} (ho : PE X eo (rdE g W fo)) (hy : PE X ey (rdE g W fy)) (hi : PE X ei (rdE g W fi)) (hs : notStar ei = true) (hc : notCall0 eo = true) (hl : (apos.endLine == cpos.line) = true) (hc2 : notCall0 ey = true) (hl2 : (apos2.endLine == cpos2.line) = true) :
    PS X (.Expr (.Call (.Attribute eo "append" apos) [.Call (.Attribute ey "pop" apos2) [ei] [] cpos2] [] cpos) pos) (rdS g W fun s => (fo s).run fun r s => if isLst r then (fy s).run fun r2 s => if isLst r2 then (toI (toP (fi s))).run fun k s => appopAt r r2 k s else .bad else .bad) := by
  have hst := star_cons hs [] X.env
  have ha : PA X [ei] (tCons (rdP g W fun s => toP (fi s)) tNil) := pa_cons (pe_P hi) pa_nil hst
  have hpop := pe_bm PySem.F.plainAttrs_list PySem.F.slot_list_pop PySem.F.type_list_pop mt_popAt hy ha (attrBase hc2 _ _ _) (by rw [hst]; rfl) hl2 hst rfl
  have hst2 := star_cons (e := .Call (.Attribute ey "pop" apos2) [ei] [] cpos2) rfl [] X.env
  refine (ps_expr (pe_bm PySem.F.plainAttrs_list PySem.F.slot_list_append PySem.F.type_list_append mt_append ho (pa_cons hpop pa_nil hst2) (attrBase hc _ _ _) (by rw [hst2]; rfl) hl hst2 rfl) (by unfold swapsWith; rfl)).mono fun D σ H ⟨b, al, s, R, P⟩ => ⟨b, al, s, R, ?_⟩
  refine (run_post P).mono fun r s1 p o H1 x1 R1 rv => ?_
  cases hr : isLst r with
  | false => rw [hr] at p; exact p.elim
  | true =>
    rw [hr] at p
    refine ⟨lst_ty R1 rv hr, b, al, s1, R1, ?_⟩
    refine (run_post (show PostS g b W D al H ((fy s1).run fun r2 s => if isLst r2 then (toI (toP (fi s))).run fun k s => appopAt r r2 k s else .bad) from p)).shift x1 fun r2 s2 p2 o2 H2 x2 R2 rv2 => ?_
    cases hr2 : isLst r2 with
    | false => rw [hr2] at p2; exact p2.elim
    | true =>
      rw [hr2] at p2
      refine ⟨lst_ty R2 rv2 hr2, b, al, s2, R2, ?_⟩
      have p2 := run_post (σ := σ) (show PostS g b W D al H ((toI (toP (fi s2))).run fun k s => appopAt r r2 k s) from p2)
      unfold toI at p2
      rw [postX_bind] at p2
      refine p2.shift (x1.trans x2) fun d s3 p3 u H3 x3 R3 ru => ?_
      cases d with
      | int k =>
        have p3 : PostS g b W D al H (appopAt r r2 k s3) := p3
        cases r with
        | val d => cases r2 <;> exact False.elim p3
        | own d => cases r2 <;> exact False.elim p3
        | dct d => cases r2 <;> exact False.elim p3
        | ldc i d => cases r2 <;> exact False.elim p3
        | loc i l =>
        cases r2 with
        | val d => exact False.elim p3
        | own d => exact False.elim p3
        | dct d => exact False.elim p3
        | ldc i d => exact False.elim p3
        | loc j l2 =>
        have p3 : PostS g b W D al H (if i = j then .bad else match s3.t[i]?, s3.t[j]? with
          | some (some (.own ds)), some (some (.own es)) => if smallI k then match ixP es.length k with
            | some n => match es[n]? with
              | some d => if ds.length < line then .next { s3 with t := (s3.t.set j (some (.own (es.eraseIdx n)))).set i (some (.own (ds ++ [d]))) } else .bad
              | none => .bad
            | none => .bad
            else .bad
          | _, _ => .bad) := p3
        split at p3
        · exact p3.elim
        rename_i hij
        cases hi : s3.t[i]? with
        | none => rw [hi] at p3; exact False.elim p3
        | some oi =>
        cases hj : s3.t[j]? with
        | none => rw [hi, hj] at p3; cases oi <;> first | exact False.elim p3 | (rename_i z; cases z <;> exact False.elim p3)
        | some oj =>
        rw [hi, hj] at p3
        cases oi with
        | none => exact False.elim p3
        | some xi =>
        cases xi with
        | val _ => exact False.elim p3
        | dct _ => exact False.elim p3
        | ldk _ => exact False.elim p3
        | exc _ _ => exact False.elim p3
        | own ds =>
        cases oj with
        | none => exact False.elim p3
        | some xj =>
        cases xj with
        | val _ => exact False.elim p3
        | dct _ => exact False.elim p3
        | ldk _ => exact False.elim p3
        | exc _ _ => exact False.elim p3
        | own es =>
        dsimp only at p3
        split at p3
        · rename_i hsm
          split at p3
          · rename_i n hn
            split at p3
            · rename_i dd hd
              split at p3
              · rename_i hl0
                obtain ⟨h1, h2⟩ := smallI_ok hsm
                obtain ⟨w1, e1, a1, vs1, rfl, f1, f2, f3, f4⟩ := R3.sl i _ hi
                obtain ⟨w2, e2, a2, vs2, rfl, k1, k2, k3, k4⟩ := R3.sl j _ hj
                have t1 : σ[i]? = some (some o) := rv.2
                have t2 : σ[j]? = some (some o2) := rv2.2
                rw [e1] at t1; cases t1
                rw [e2] at t2; cases t2
                have na : a1 ≠ a2 := fun z => by subst z; exact R3.inj i j _ _ a1 hij hi hj rfl rfl e1 e2
                have hn' : ixN vs2.length k = some n := by rw [← k2.length]; exact hn
                obtain ⟨q1, q2, _, _⟩ := ixN_seq hn'
                obtain ⟨w, ew, rw'⟩ := k2.get hd
                have st2 := stay_lst (ws := vs2.eraseIdx n) k1
                have R4 := R3.writeOwn hj e2 k1 (reps_erase n k2) k3 k4
                have hi4 : (s3.t.set j (some (.own (es.eraseIdx n))))[i]? = some (some (.own ds)) := by rw [List.getElem?_set_ne (fun z => hij z.symm)]; exact hi
                have f1' : upd H3 a2 (.lst (vs2.eraseIdx n)) a1 = some (.lst vs1) := by rw [upd_ne na]; exact f1
                have f2' := f2.stay st2 (al' := al) fun _ _ z => z
                have st3 := stay_lst (ws := vs1 ++ [w]) f1'
                have R5 := R4.writeOwn hi4 e1 f1' (f2'.append (Reps.cons (rw'.stay st2 fun _ _ z => z) Reps.nil)) f3 f4
                refine ⟨a2, vs2, k, n, w, rfl, by rw [ru.int], k1, by omega, by omega, q1, ew, ?_⟩
                refine ⟨a1, vs1, w, rfl, rfl, f1', by rw [← f2.length, ← line_eq]; exact hl0, ?_⟩
                exact p3 al σ _ (AlX.refl al) ((((x1.trans x2).trans x3).st.trans st2).trans st3) R5
              · exact p3.elim
            · exact p3.elim
          · exact p3.elim
        · exact p3.elim
      | _ => exact p3.elim
/-! ### for k in a dict -/
def G.lkd (g : G) (a : Addr) : G := { g with lk := some a }
theorem noLdk_get (h : noLdk s = true) {i : Nat} {x : Sl} (e : s.t[i]? = some (some x)) : ∀ kvs, x ≠ .ldk kvs := fun kvs z => by
  subst z
  have := List.all_eq_true.mp h _ (List.mem_of_getElem? e)
  cases this
/-- the dict of slot i is locked -/
theorem Rel.lockD (r : Rel g b al s σ H) {i : Nat} {kvs : List (Key × PI.D)} {a : Addr} {ws : List (Key × V)} {od : Obj} (hn : noLdk s = true) (hi : s.t[i]? = some (some (.dct kvs))) (hσ : σ[i]? = some (some (.ref a))) (h : H a = some (.dK ws)) (q : KRep g.K al H kvs ws) (n : a ∉ al) (hb : b.Hb a = none) :
    Rel (g.lkd a) b al { s with t := s.t.set i (some (.ldk kvs)) } σ (upd H a (.frz od (.dK ws))) ∧ Stay H (upd H a (.frz od (.dK ws))) := by
  have st : Stay H (upd H a (.frz od (.dK ws))) :=
    ⟨fun c xs e => by rw [upd_ne (ne_of e h (by intro z; cases z))]; exact e, fun c x u e => by rw [upd_ne (ne_of e h (by intro z; cases z))]; exact e, fun c fs e => by rw [upd_ne (ne_of e h (by intro z; cases z))]; exact e⟩
  have hlt : i < s.t.length := (List.getElem?_eq_some_iff.mp hi).1
  refine ⟨⟨by rw [List.length_set]; exact r.len, fun j x e => ?_, fun j k x y c hjk ej ek ox oy e1 => ?_, fun c fs e => ?_, r.alen, r.nd, fun c u e m => ?_, r.anew, r.apre⟩, st⟩
  · rcases get_set e with ⟨rfl, e2, hl⟩ | ⟨hj, e2⟩
    · cases e2
      exact ⟨_, hσ, a, od, ws, rfl, rfl, upd_same, q.stay st fun _ _ z => z, n, hb⟩
    · obtain ⟨v, e1, z⟩ := r.sl j x e2
      refine ⟨v, e1, ?_⟩
      have nl := noLdk_get hn e2
      cases x with
      | val d => exact z.stay st fun _ _ z => z
      | own fs =>
        obtain ⟨c, us, ev, h1, h2, h3⟩ := z
        have : c ≠ a := fun w => by subst w; rw [h] at h1; cases h1
        exact ⟨c, us, ev, by rw [upd_ne this]; exact h1, h2.stay st fun _ _ z => z, h3⟩
      | dct kvs =>
        obtain ⟨c, us, ev, h1, h2, h3⟩ := z
        have : c ≠ a := fun w => by subst ev; subst w; exact r.inj i j _ _ c hj hi e2 rfl rfl hσ e1
        exact ⟨c, us, ev, by rw [upd_ne this]; exact h1, h2.stay st fun _ _ z => z, h3⟩
      | ldk kvs => exact absurd rfl (nl kvs)
      | exc c d =>
        obtain ⟨a', dd, w, e1, e2, e3, e4⟩ := z
        exact ⟨a', dd, w, e1, e2, st.xd _ _ e3, e4.stay st fun _ _ z => z⟩
  · have ej' : ∃ x', s.t[j]? = some (some x') ∧ x'.isOwn = true := by
      rcases get_set ej with ⟨rfl, e2, hl⟩ | ⟨hj, e2⟩
      · exact ⟨_, hi, rfl⟩
      · exact ⟨x, e2, ox⟩
    have ek' : ∃ x', s.t[k]? = some (some x') ∧ x'.isOwn = true := by
      rcases get_set ek with ⟨rfl, e2, hl⟩ | ⟨hj, e2⟩
      · exact ⟨_, hi, rfl⟩
      · exact ⟨y, e2, oy⟩
    obtain ⟨x', e2, o2⟩ := ej'
    obtain ⟨y', e3, o3⟩ := ek'
    exact r.inj j k x' y' c hjk e2 e3 o2 o3 e1
  · obtain ⟨c', us, e1, e2, e3⟩ := r.cell c fs e
    have : c' ≠ a := fun z => n (z ▸ List.mem_of_getElem? e1)
    exact ⟨c', us, e1, by rw [upd_ne this]; exact e2, e3.stay st fun _ _ z => z⟩
  · have : c ≠ a := fun z => by subst z; rw [hb] at e; cases e
    rw [upd_ne this]; exact r.base c u e m
/-- what values are made of stays -/
structure Held (H H' : Hp) : Prop where
  tup : ∀ a xs, H a = some (.tup xs) → H' a = some (.tup xs)
  ft : ∀ a o xs, H a = some (.frz o (.tup xs)) → H' a = some (.frz o (.tup xs))
  fl : ∀ a o xs, H a = some (.frz o (.lst xs)) → H' a = some (.frz o (.lst xs))
mutual
theorem Rep.held {K : PySem.W.Frag} (x : Held H H') : ∀ (d : PI.D) (v : V), Rep K al H d v → Rep K al H' d v
  | .non, v, h => by unfold Rep at h ⊢; exact h
  | .bl _, v, h => by unfold Rep at h ⊢; exact h
  | .int _, v, h => by unfold Rep at h ⊢; exact h
  | .str _, v, h => by unfold Rep at h ⊢; exact h
  | .tup ds, v, h => by
    unfold Rep at h ⊢
    obtain ⟨a, vs, e, q, r⟩ := h
    refine ⟨a, vs, e, ?_, Reps.held x ds vs r⟩
    rcases q with (q | ⟨o, q⟩) | q
    · exact .inl (.inl (x.tup _ _ q))
    · exact .inl (.inr ⟨o, x.ft _ _ _ q⟩)
    · exact .inr q
  | .lst ds, v, h => by
    unfold Rep at h ⊢
    obtain ⟨a, vs, e, ⟨o, q⟩, r⟩ := h
    exact ⟨a, vs, e, ⟨o, x.fl _ _ _ q⟩, Reps.held x ds vs r⟩
  | .ref k, v, h => by unfold Rep at h ⊢; exact h
theorem Reps.held {K : PySem.W.Frag} (x : Held H H') : ∀ (ds : List PI.D) (vs : List V), Reps K al H ds vs → Reps K al H' ds vs
  | [], vs, h => by unfold Reps at h ⊢; exact h
  | d :: ds, vs, h => by
    unfold Reps at h ⊢
    obtain ⟨v, r, e, q, t⟩ := h
    exact ⟨v, r, e, Rep.held x d v q, Reps.held x ds r t⟩
end
theorem KRep.held {K : PySem.W.Frag} (x : Held H H') {kvs : List (Key × PI.D)} {ws : List (Key × V)} (h : KRep K al H kvs ws) : KRep K al H' kvs ws :=
  Paired.mapP h fun p q z => ⟨z.1, Rep.held x _ _ z.2⟩
/-- the dict of slot i is free again -/
theorem Rel.unlockD {a : Addr} (r : Rel (g.lkd a) b al s σ H) {i : Nat} {kvs : List (Key × PI.D)} {ws : List (Key × V)} {od : Obj} (hi : s.t[i]? = some (some (.ldk kvs))) (h : H a = some (.frz od (.dK ws))) :
    Rel g b al { s with t := s.t.set i (some (.dct kvs)) } σ (upd H a (.dK ws)) := by
  obtain ⟨v, hσ, a', o', ws', ea, ev, e3, q, n, hb⟩ := r.sl i _ hi
  cases ea
  subst ev
  rw [h] at e3; cases e3
  have ne0 : ∀ c o, H c = some o → (∀ o' u, o ≠ .frz o' (.dK u)) → c ≠ a := fun c o e hne z => by subst z; rw [h] at e; cases e; exact hne _ _ rfl
  have hd : Held H (upd H a (.dK ws)) := ⟨fun c xs e => by rw [upd_ne (ne0 c _ e fun _ _ z => nomatch z)]; exact e, fun c o xs e => by rw [upd_ne (ne0 c _ e fun _ _ z => nomatch z)]; exact e,
    fun c o xs e => by rw [upd_ne (ne0 c _ e fun _ _ z => nomatch z)]; exact e⟩
  refine ⟨by rw [List.length_set]; exact r.len, fun j x e => ?_, fun j k x y c hjk ej ek ox oy e1 => ?_, fun c fs e => ?_, r.alen, r.nd, fun c u e m => ?_, r.anew, r.apre⟩
  · rcases get_set e with ⟨rfl, e2, hl⟩ | ⟨hj, e2⟩
    · cases e2
      exact ⟨_, hσ, a, ws, rfl, upd_same, q.held hd, n, hb⟩
    · obtain ⟨v, e1, z⟩ := r.sl j x e2
      refine ⟨v, e1, ?_⟩
      cases x with
      | val d => exact Rep.held hd _ _ z
      | own fs =>
        obtain ⟨c, us, ev, h1, h2, h3⟩ := z
        have : c ≠ a := ne0 c _ h1 fun _ _ z => nomatch z
        exact ⟨c, us, ev, by rw [upd_ne this]; exact h1, Reps.held hd _ _ h2, h3⟩
      | dct kvs =>
        obtain ⟨c, us, ev, h1, h2, h3⟩ := z
        have : c ≠ a := ne0 c _ h1 fun _ _ z => nomatch z
        exact ⟨c, us, ev, by rw [upd_ne this]; exact h1, h2.held hd, h3⟩
      | ldk kvs2 =>
        obtain ⟨c, o2, us, e5, ev, _⟩ := z
        cases e5
        subst ev
        exact absurd e1 (r.inj i j _ _ a hj hi e2 rfl rfl hσ)
      | exc c d =>
        obtain ⟨a2, dd, w, e1, e2, e3, e4⟩ := z
        exact ⟨a2, dd, w, e1, e2, by rw [upd_ne (ne0 dd _ e3 fun _ _ z => nomatch z)]; exact e3, Rep.held hd _ _ e4⟩
  · have ej' : ∃ x', s.t[j]? = some (some x') ∧ x'.isOwn = true := by
      rcases get_set ej with ⟨rfl, e2, hl⟩ | ⟨hj, e2⟩
      · exact ⟨_, hi, rfl⟩
      · exact ⟨x, e2, ox⟩
    have ek' : ∃ x', s.t[k]? = some (some x') ∧ x'.isOwn = true := by
      rcases get_set ek with ⟨rfl, e2, hl⟩ | ⟨hj, e2⟩
      · exact ⟨_, hi, rfl⟩
      · exact ⟨y, e2, oy⟩
    obtain ⟨x', e2, o2⟩ := ej'
    obtain ⟨y', e3, o3⟩ := ek'
    exact r.inj j k x' y' c hjk e2 e3 o2 o3 e1
  · obtain ⟨c', us, e1, e2, e3⟩ := r.cell c fs e
    have : c' ≠ a := ne0 c' _ e2 fun _ _ z => nomatch z
    exact ⟨c', us, e1, by rw [upd_ne this]; exact e2, Reps.held hd _ _ e3⟩
  · have : c ≠ a := fun z => by subst z; rw [hb] at e; cases e
    rw [upd_ne this]; exact r.base c u e m
/-- the keys of the dict that is walked -/
def keysAt (i : Nat) (s : S) : Res (List PI.D) := match s.t[i]? with
  | some (some (.ldk kvs)) => .ok (kvs.map fun q => keyD q.1) s
  | _ => .bad
theorem walk_keys {a : Addr} {o : Obj} {kvs : List (Key × PI.D)} {ws : List (Key × V)} (h : H a = some (.frz o (.dK ws))) (q : KRep g.K al H kvs ws) : Walks g al (Itk a o ws) (kvs.map fun q => keyD q.1) H := fun H1 st => by
  have h1 := st.frz _ _ _ h
  have hl : kvs.length = ws.length := Paired.length q
  have at_ : ∀ {kvs : List (Key × PI.D)} {ws : List (Key × V)}, KRep g.K al H kvs ws → ∀ (i : Nat) (d : PI.D), (kvs.map fun q => keyD q.1)[i]? = some d → ∃ k v, ws[i]? = some (k, v) ∧ d = keyD k := by
    intro kvs ws q
    induction q with
    | nil => intro i d e; simp at e
    | @cons x y l1 l2 p t ih =>
      intro i d e
      cases i with
      | zero => simp at e; exact ⟨y.1, y.2, rfl, by rw [← e, p.1]⟩
      | succ i => simp only [List.map_cons, List.getElem?_cons_succ] at e ⊢; exact ih i d e
  refine ⟨fun i d e => ?_, fun i e => ⟨h1, by rw [← hl]; simpa using e⟩⟩
  obtain ⟨k, v, e1, rfl⟩ := at_ q i d e
  refine ⟨⟨h1, (List.getElem?_eq_some_iff.mp e1).1⟩, fun x H2 ⟨e2, k2, v2, e3, e4⟩ => ?_⟩
  subst e2
  rw [e1] at e3
  cases e3
  refine ⟨fun _ _ z => z, ?_⟩
  subst e4
  cases k <;> (unfold keyD Rep; rfl)
theorem pi_keysL {i : Nat} {x : Str} {tge : Expr} {pos : Pos} {a : Addr} (hN : X.N[i]? = some x) (hv : Vis X.env.scope x) (hd : (x == ("__debug__" : Str)) = false) (hcd : (x == ("__classdict__" : Str)) = false) :
    L2.PI X tge (.Name x pos) (rdI (g.lkd a) W (keysAt i)) := (pi_keys (pe_var hN hv hd hcd)).mono fun σ H Rr ⟨b, al, s, R, P⟩ => by
  unfold keysAt at P
  split at P
  · rename_i kvs e
    obtain ⟨v, e1, a', o, ws, ea, ev, h1, q, n, hb⟩ := R.sl i _ e
    subst ev
    exact ⟨_, e1, a', o, rfl, .inl ⟨ws, h1, P _ H Ext.refl R (walk_keys h1 q)⟩⟩
  · exact P.elim
theorem ps_ex {α : Type} {st : Stmt} {t : α → TS} (h : ∀ a, PS X st (t a)) : PS X st (fun D σ H => ∃ a, t a D σ H) := ⟨fun pins s σ H D I ⟨a, q⟩ => (h a).run pins s σ H D I q⟩
theorem ps_fork {i : Nat} {x : Str} {tge : Expr} {tg : MT} {body : List Stmt} {fb : S → R} {pos pos2 : Pos} (hK : X.K = g.K) (hp : PassesOwn (model X.prog X.w) X.A X.env X.xe) (hc : X.calm = true) (hN : X.N[i]? = some x) (hv : Vis X.env.scope x) (hd : (x == ("__debug__" : Str)) = false) (hcd : (x == ("__classdict__" : Str)) = false)
    (hg : PG X tge (gtOf X.K tg)) (hb : ∀ a, PSs X body (rdS (g.lkd a) W fb)) :
    PS X (.For tge (.Name x pos2) body [] pos) (rdS g W fun s => match s.t[i]? with
      | some (some (.dct kvs)) => if noLdk s then endK i (forGo (bindT tg) fb (kvs.map fun q => keyD q.1) { s with t := s.t.set i (some (.ldk kvs)) }) else .bad
      | _ => .bad) := by
  have h1 : ∀ a, PS X (.For tge (.Name x pos2) body [] pos) (rdS (g.lkd a) W fun s => (keysAt i s).run fun ds s => forGo (bindT tg) fb ds s) := fun a => ps_for' (g := g.lkd a) hK hp hc (pi_keysL hN hv hd hcd) hg (hb a) (fun x => rfl)
  refine (ps_lock (ps_ex h1)).mono fun D σ H ⟨b, al, s, R, P⟩ => ?_
  dsimp only at P
  split at P
  · rename_i kvs e
    split at P
    · rename_i hn
      obtain ⟨v, e1, a, ws, ev, h2, q, n, hb0⟩ := R.sl i _ e
      subst ev
      refine ⟨a, .dK ws, h2, trivial, fun od => ⟨a, b, al, _, (R.lockD (od := od) hn e e1 h2 q n hb0).1, ?_⟩⟩
      obtain ⟨R1, st1⟩ := R.lockD (od := od) hn e e1 h2 q n hb0
      have hlt : i < s.t.length := (List.getElem?_eq_some_iff.mp e).1
      have hk : keysAt i { s with t := s.t.set i (some (.ldk kvs)) } = .ok (kvs.map fun q => keyD q.1) { s with t := s.t.set i (some (.ldk kvs)) } := by
        unfold keysAt
        dsimp only
        rw [List.getElem?_set_self hlt]
      dsimp only
      rw [hk]
      show PostS (g.lkd a) b W _ al _ (forGo (bindT tg) fb (kvs.map fun q => keyD q.1) { s with t := s.t.set i (some (.ldk kvs)) })
      cases w : forGo (bindT tg) fb (kvs.map fun q => keyD q.1) { s with t := s.t.set i (some (.ldk kvs)) } with
      | next s2 =>
        rw [w] at P
        intro al' σ' H' ax st R'
        unfold endK at P
        dsimp only at P
        split at P
        · rename_i kvs2 e2
          have hf : H' a = some (.frz od (.dK ws)) := st.frz _ _ _ upd_same
          refine ⟨hf, P al' σ' _ ax ?_ (R'.unlockD e2 hf)⟩
          have nea : ∀ c o, H c = some o → (∀ u, o ≠ .dK u) → c ≠ a := fun c o e hne z => by subst z; rw [h2] at e; cases e; exact hne _ rfl
          exact ⟨fun c xs e => by have ne := nea c _ e fun _ z => nomatch z
                                  rw [upd_ne ne]; exact st.tup _ _ (st1.tup _ _ e), fun c o u e => by
                                  have ne := nea c _ e fun _ z => nomatch z
                                  rw [upd_ne ne]; exact st.frz _ _ _ (st1.frz _ _ _ e), fun c fs e => by
                                  have ne := nea c _ e fun _ z => nomatch z
                                  rw [upd_ne ne]; exact st.xd _ _ (st1.xd _ _ e)⟩
        · exact P.elim
      | brk s2 => rw [w] at P; exact P.elim
      | cnt s2 => rw [w] at P; exact P.elim
      | ret r s2 => rw [w] at P; exact P.elim
      | exc c d s2 => rw [w] at P; exact P.elim
      | bad => rw [w] at P; exact P.elim
    · exact P.elim
  · exact P.elim
end
end PI

namespace PI
open PySem PySem.Spec PyProof.Rows L2

/-! ### the looks at statements -/
def notComp : Expr → Bool
  | .ListComp _ _ _ _ => false
  | .SetComp _ _ _ _ => false
  | .DictComp _ _ _ _ _ => false
  | _ => true
/-- the value that is stored in a tuple of names is stored from the left -/
def plainRight (sc : Scope) (t : Expr) : Expr → Bool
  | .Tuple vs _ _ => (vs.all (foldedForSure 8) && vs.all notStar) || (match t with | .Tuple ts _ _ => !(ts.length == 2 || ts.length == 3) || ts.any (fun e => match e with | .Name x _ => !decide (sc.names.lookup x = some NameKind.local) | _ => true) | _ => false)
  | _ => true
def pairOk (x y : Str) (px py : Pos) (a b : Expr) : Bool := (px.line == px.line) && (py.line == px.line) && !decide (x = y) && !([a, b].all (foldedForSure 8)) && !([a, b].all (constantsAlone 8))
mutual
def chS (T : Tab) (c : Ctx) : MS → Stmt → Bool
  | .set (.name i) e, st => match st with
    | .Assign [.Name x px] v pos => stB c i x && chE T c e v && (notComp v ||
        (match v with | .ListComp _ _ scope vp => decide (c.sc.kind = .function) && decide (c.sc.names.lookup x = some .local) && (px.line == vp.line) && !(scope.names.any fun (n, k) => n == x && (k == .local || k == .cell)) | _ => false))
    | _ => false
  | .set (.tup is) e, st => match st with
    | .Assign [t] v pos => tgB c (.tup is) t && chE T c e v && plainRight c.sc t v
    | _ => false
  | .shr i e, st => match st with
    | .Assign [.Name x px] v pos => stB c i x && chE T c e v && notComp v
    | _ => false
  | .par i j a b, st => match st with
    | .Assign [.Tuple [.Name x px, .Name y py] _ _] (.Tuple [ea, eb] _ _) pos => c.top && c.calm && decide (c.sc.kind = .function) && decide (c.N[i]? = some x) && decide (c.N[j]? = some y) && decide (i ≠ j) && decide (c.sc.names.lookup x = some .local) && decide (c.sc.names.lookup y = some .local) &&
        chE T c a ea && chE T c b eb && notStar ea && notStar eb && pairOk x y px py ea eb
    | _ => false
  | .aug i o e, st => match st with
    | .AugAssign (.Name x _) op v _ => stB c i x && chE T c e v && ((decide (o = .add) && decide (op = .Add)) || (decide (o = .sub) && decide (op = .Sub)))
    | _ => false
  | .seti x ix e, st => match st with
    | .Assign [.Subscript eo ei _] v _ => chE T c x eo && chE T c ix ei && chE T c e v && notSlice ei
    | _ => false
  | .augi x ix o e, st => match st with
    | .AugAssign (.Subscript eo ei _) op v _ => chE T c x eo && chE T c ix ei && chE T c e v && notSlice ei && ((decide (o = .add) && decide (op = .Add)) || (decide (o = .sub) && decide (op = .Sub)))
    | _ => false
  | .appop x y i, st => match st with
    | .Expr (.Call (.Attribute eo m apos) [.Call (.Attribute ey m2 apos2) [ei] [] cpos2] [] cpos) _ => decide (m = "append") && decide (m2 = "pop") && chE T c x eo && chE T c y ey && chE T c i ei && notStar ei && notCall0 eo && notCall0 ey && (apos.endLine == cpos.line) && (apos2.endLine == cpos2.line)
    | _ => false
  | .fork t i b, st => match st with
    | .For tg (.Name x _) ss [] _ => c.calm && tgB c t tg && nmB c i x && chSs T c b ss
    | _ => false
  | .app x e, st => match st with
    | .Expr (.Call (.Attribute eo m apos) [v] [] cpos) _ => decide (m = "append") && chE T c x eo && chE T c e v && notStar v && notCall0 eo && (apos.endLine == cpos.line)
    | _ => false
  | .pop x, st => match st with
    | .Expr (.Call (.Attribute eo m apos) [] [] cpos) _ => decide (m = "pop") && chE T c x eo && notCall0 eo && (apos.endLine == cpos.line)
    | _ => false
  | .ext x e, st => match st with
    | .Expr (.Call (.Attribute eo m apos) [v] [] cpos) _ => decide (m = "extend") && chE T c x eo && chE T c e v && notStar v && notCall0 eo && (apos.endLine == cpos.line)
    | _ => false
  | .expr e, st => match st with
    | .Expr v _ => chE T c e v && notComp v
    | _ => false
  | .ite k a b, st => match st with
    | .If x ss ts _ => chE T c k x && chSs T c a ss && chSs T c b ts
    | _ => false
  | .while k b, st => match st with
    | .While x ss [] _ => chE T c k x && chSs T c b ss
    | _ => false
  | .for t it b, st => match st with
    | .For tg i ss [] _ => c.calm && tgB c t tg && chI T c it tg i && notSet i && chSs T c b ss
    | _ => false
  | .ret e, st => match st with
    | .Return (some v) _ => chE T c e v
    | _ => false
  | .retN, st => match st with
    | .Return none _ => true
    | _ => false
  | .raise x k e, st => match st with
    | .Raise (some (.Call (.Name y _) [v] [] _)) none _ => decide (y = x) && c.calm && glB c x && decide (T.exc.lookup x = some k) && notStar v && chE T c e v
    | _ => false
  | .try b hs, st => match st with
    | .Try body (h :: hds) [] [] _ => c.top && c.calm && c.ex.isNone && chSs T c b body && chH T c hs (h :: hds)
    | _ => false
  | .pass, st => match st with
    | .Pass _ => true
    | _ => false
  | .brk, st => match st with
    | .Break _ => true
    | _ => false
  | .cnt, st => match st with
    | .Continue _ => true
    | _ => false
def chSs (T : Tab) (c : Ctx) : MSs → List Stmt → Bool
  | .nil, ss => match ss with | [] => true | _ => false
  | .cons m ms, ss => match ss with | s :: ss => chS T c m s && chSs T c ms ss | _ => false
def chH (T : Tab) (c : Ctx) : MHs → List ExceptHandler → Bool
  | .nil, hs => match hs with | [] => true | _ => false
  | .cons x cs no i b r, hs => match hs with
    | .ExceptHandler (some (.Name y _)) (some n) (s :: ss) _ :: hs => decide (y = x) && decide (c.N[i]? = some n) && decide (c.sc.names.lookup n = some .local) && glB c x && decide (T.hnd.lookup x = some (cs, no)) &&
        (match cs with | k :: _ => cs.all (fun k' => decide (T.fld k' = T.fld k)) && chSs T { c with calm := false, ex := some (i, T.fld k) } b (s :: ss) | [] => false) && chH T c r hs
    | _ => false
end

section
variable {X : Cx} {g : G} {T : Tab} {Φ : Fns} {lv : Nat} {c : Ctx} {W : WX}
theorem XOk.tr (h : XOk X g T Φ lv c W) (hc : c.ex = none) {W' : WX} {pn : List (Addr × Obj)} {xe : Value → Shared → Prop} (tk : Takes (X.tr pn xe) W') (own : PassesOwn (model X.prog X.w) X.A X.env xe) : XOk (X.tr pn xe) g T Φ lv c W' where
  K := h.K
  N := h.N
  sc := h.sc
  nd := h.nd
  tk := tk
  own := own
  units := h.units
  calm := h.calm
  top := h.top
  stk := h.stk
  blt := h.blt
  glb := h.glb
  fn := h.fn
  ex := fun i f z => by rw [hc] at z; cases z
  made := h.made
  hnd := h.hnd
  inj := h.inj
theorem XOk.suite (h : XOk X g T Φ lv c W) {i : Nat} {f : Str} {a : Addr} {oe : Obj} {pn : List (Addr × Obj)} {k : Nat} {d : Addr} (hz : Zc (.ref (g.C k)) (some d) oe) (hf : ∃ vs, oe.data = .fields vs) (eF : g.F k = f) (fo : FldOk X.K (g.C k) f) :
    XOk (X.suite a ((a, oe) :: pn)) (g.held a (.ref (g.C k)) (some d)) T Φ lv { c with calm := false, ex := some (i, f) } W0 where
  K := h.K
  N := h.N
  sc := h.sc
  nd := h.nd
  tk := takes0
  own := PassesOwn.never
  units := h.units
  calm := fun z => by cases z
  top := h.top
  stk := h.stk
  blt := h.blt
  glb := h.glb
  fn := h.fn
  ex := fun i' f' z => by
    cases z
    exact ⟨X, a, oe, pn, k, d, rfl, hz, hf, rfl, eF, fo⟩
  made := h.made
  hnd := h.hnd
  inj := h.inj
theorem XOk.lkd (h : XOk X g T Φ lv c W) (a : Addr) : XOk X (g.lkd a) T Φ lv c W where
  K := h.K
  N := h.N
  sc := h.sc
  nd := h.nd
  tk := h.tk
  own := h.own
  units := h.units
  calm := h.calm
  top := h.top
  stk := h.stk
  blt := h.blt
  glb := h.glb
  fn := h.fn
  ex := h.ex
  made := h.made
  hnd := h.hnd
  inj := h.inj
theorem sw_none {v : Expr} (h : notComp v = true) (t : Option Expr) (l : Nat) (env : Env) : swapsWith v t l env = pure false := by
  unfold swapsWith
  cases v <;> first | rfl | (cases h)
theorem sw_tup {v : Expr} {es : List Expr} {k : Nat} {p : Pos} {l : Nat} {env : Env} : swapsWithSole [.Tuple es k p] v l env = pure false := by
  show swapsWith v (some (.Tuple es k p)) l env = pure false
  unfold swapsWith
  cases v <;> rfl
theorem fm_lt {α β : Type} {f : α → Option β} : ∀ {l : List α}, l.any (fun x => (f x).isNone) = true → (l.filterMap f).length < l.length
  | x :: l, h => by
    rw [List.any_cons, Bool.or_eq_true] at h
    have le : (l.filterMap f).length ≤ l.length := List.length_filterMap_le f l
    cases e : f x with
    | none => rw [List.filterMap_cons_none e, List.length_cons]; omega
    | some y =>
      rw [e] at h
      rcases h with h | h
      · cases h
      · have := fm_lt h
        rw [List.filterMap_cons_some e, List.length_cons, List.length_cons]; omega
theorem plainRight_ok {es : List Expr} {k : Nat} {p : Pos} {v : Expr} {env : Env} (h : plainRight env.scope (.Tuple es k p) v = true) : swappedStores [.Tuple es k p] v env = pure none := by
  unfold swappedStores
  cases v <;> try rfl
  rename_i vs k2 p2
  simp only [plainRight, Bool.or_eq_true, Bool.and_eq_true] at h
  simp only [pure_bind]
  split
  · rfl
  split
  · rfl
  rcases h with ⟨h1, h2⟩ | h3
  · split
    · rfl
    · first | rfl | (rw [if_pos h1] <;> rfl)
  rcases h3 with h | h
  · exfalso
    rename_i c1 _
    exact c1 (by rw [h]; rfl)
  · rw [if_pos]
    · rw [Bool.or_eq_true]
      left
      rw [bne_iff_ne]
      refine Nat.ne_of_lt (fm_lt ?_)
      rw [List.any_eq_true] at h ⊢
      obtain ⟨e, he, hh⟩ := h
      refine ⟨e, he, ?_⟩
      cases e <;> try rfl
      rename_i x px
      simp only [Bool.not_eq_true', decide_eq_false_iff_not] at hh
      have : (env.kindOf x == some NameKind.local) = false := by
        rw [beq_eq_false_iff_ne]
        exact hh
      simp [this]
theorem pairOk_ok {x y : Str} {px py pt pt2 : Pos} {a b : Expr} {k k2 : Nat} {env : Env} (hk : env.scope.kind = .function) (hx : env.scope.names.lookup x = some .local) (hy : env.scope.names.lookup y = some .local) (ha : notStar a = true) (hb : notStar b = true) (h : pairOk x y px py a b = true) :
    swappedStores [.Tuple [.Name x px, .Name y py] k pt] (.Tuple [a, b] k2 pt2) env = pure (some [x, y]) := by
  simp only [pairOk, Bool.and_eq_true, Bool.not_eq_true', decide_eq_false_iff_not] at h
  obtain ⟨⟨⟨⟨h1, h2⟩, h3⟩, h4⟩, h5⟩ := h
  have hbk : env.blockKind = .function := by unfold Env.blockKind; rw [hk]; rfl
  have kx : env.kindOf x = some .local := hx
  have ky : env.kindOf y = some .local := hy
  have e1 : ((([a, b] : List Expr).any fun | .Starred .. => true | _ => false) = false) := by
    cases a <;> first | (cases ha; done) | (cases b <;> first | rfl | (cases hb; done))
  have p1 : (px.line == px.line) = true := by simp
  have n1 : ([x, y] : List Str).eraseDups = [x, y] := by
    have : (y == x) = false := by simpa using fun z : y = x => h3 z.symm
    simp [List.eraseDups_cons, List.filter, this]
  unfold swappedStores
  simp only [pure_bind, hbk, e1, List.filterMap_cons, List.filterMap_nil, kx, ky, List.head?_cons, Option.map_some, Option.getD_some, Expr.pos, h2, p1, h4, h5, List.length_cons, List.length_nil]
  simp [n1]
  intro z
  exfalso
  rcases z with z | z
  · cases a <;> first | (cases ha; done) | (cases z; done)
  · cases b <;> first | (cases hb; done) | (cases z; done)
end

section
variable {g₀ : G} {T : Tab} {Φ : Fns} {lv : Nat}
mutual
theorem sS : ∀ (m : MS) (X : Cx) (g : G) (c : Ctx) (W : WX) (st : Stmt), XOk X g T Φ lv c W → chS T c m st = true → PS X st (rdS g W (ex Φ m))
  | .set (.name i) e, X, g, c, W, st, O, h => by
    unfold chS at h
    split at h
    · rename_i x px v pos
      simp only [Bool.and_eq_true, Bool.or_eq_true] at h
      obtain ⟨⟨h1, h2⟩, h3⟩ := h
      have hE := (sE e X c W v O h2).1
      have en : ex Φ (.set (.name i) e) = fun s => (ev Φ e s).run fun r s => putR i r s := by funext s; rw [ex] <;> rfl
      rw [en]
      rcases h3 with h3 | h3
      · exact ps_setN O.nd (O.st h1) hE (sw_none h3 _ _ _)
      · split at h3
        · rename_i y gs scope vp
          simp only [Bool.and_eq_true, decide_eq_true_eq, Bool.not_eq_true'] at h3
          obtain ⟨⟨⟨k1, k2⟩, k3⟩, k4⟩ := h3
          have hw : ∀ l, swapsWith (.ListComp y gs scope vp) (some (.Name x px)) l X.env = pure true := fun l => sw_true (by rw [O.sc]; exact k1) (by rw [O.sc]; exact k2) k3 k4
          cases e with
          | lc elt tg it cond =>
            simp only [chE] at h2
            split at h2
            · rename_i y t i2 ifs k scope pos e2
              cases e2
              simp only [Bool.and_eq_true, decide_eq_true_eq] at h2
              obtain ⟨⟨⟨⟨⟨⟨⟨⟨k1, rfl⟩, k2⟩, k3⟩, k4⟩, k5⟩, k6⟩, k7⟩, k8⟩ := h2
              have hc := (O.calm k1).1
              have ok : BlkOk X.N X.env.scope scope (ownOf tg t) := by rw [O.N, O.sc]; exact blkOk_by k3
              have hi := sI it X c W t i2 O k1 k5
              have e1 : ev Φ (.lc elt tg it cond) = fun s => (evI Φ it s).bind fun items s => match lcGo (lcTurn tg (evCond Φ cond) (fun s => toV (ev Φ elt s))) [] items s with
                | .ok ds s1 => .ok (.own ds) { s1 with t := backT s1.t s.t tg.ids }
                | _ => .bad := by
                  funext s
                  rw [ev]
                  rfl
              rw [e1]
              exact ps_setC hc O.nd (O.st h1).ix (by rw [O.sc]; assumption) (hw _) hi ok k4 (gtOf X.K tg) (fun s H C cl fp => tg_pg (X := X.blk s H scope (compEnvC scope cl C X.env) fp) O.nd (O.tgK k1 k2 s H C cl fp)) (fun b al s σ H d x s2 Q R r e q => tg_run O.K tg b al s σ H d x s2 Q R r e q)
                (fun s H C cl fp => sCond cond _ _ W0 _ (O.blk k1 s H scope C cl fp) k7) (fun s H C cl fp => pe_V (sE elt _ _ W0 _ (O.blk k1 s H scope C cl fp) k8).1) (fun x => foldedSet k6 _ x)
            · cases h2
          | lc2 elt tg it cond tg1 it1 cond1 =>
            simp only [chE] at h2
            split at h2
            · rename_i y t i2 ifs k t1 i1 ifs1 kk scope pos e2
              cases e2
              simp only [Bool.and_eq_true, decide_eq_true_eq] at h2
              obtain ⟨⟨⟨⟨⟨⟨⟨⟨⟨⟨⟨⟨⟨k1, rfl⟩, rfl⟩, k2⟩, k2'⟩, k3⟩, k4⟩, k5⟩, k6⟩, k7⟩, k8⟩, k9⟩, k10⟩, k11⟩ := h2
              have hc := (O.calm k1).1
              have ok : BlkOk X.N X.env.scope scope (ownOf tg t ++ ownOf tg1 t1) := by rw [O.N, O.sc]; exact blkOk_by k3
              have hi := sI it X c W t i2 O k1 k5
              have e1 : ev Φ (.lc2 elt tg it cond tg1 it1 cond1) = fun s => (evI Φ it s).bind fun items s => match lcGo2 (lcTurn2 (tg.ids ++ tg1.ids) tg (evCond Φ cond) (evI Φ it1)) (lcTurn tg1 (evCond Φ cond1) (fun s => toV (ev Φ elt s))) [] items s with
                | .ok ds s1 => .ok (.own ds) { s1 with t := backT s1.t s.t (tg.ids ++ tg1.ids) }
                | _ => .bad := by
                  funext s
                  rw [ev]
                  rfl
              rw [e1]
              exact ps_setC2 hc O.nd (O.st h1).ix (by rw [O.sc]; assumption) (hw _) hi ok k4 (gtOf X.K tg) (gtOf X.K tg1) (fun s H C cl fp => tg_pg (X := X.blk s H scope (compEnvC scope cl C X.env) fp) O.nd (O.tgK k1 k2 s H C cl fp)) (fun b al s σ H d x s2 Q R r e q => tg_run O.K tg b al s σ H d x s2 Q R r e q)
                (fun s H C cl fp => sCond cond _ _ W0 _ (O.blk k1 s H scope C cl fp) k7) (fun s H C cl fp => sI it1 _ _ W0 _ _ (O.blk k1 s H scope C cl fp) rfl k8)
                (fun s H C cl fp => tg_pg (X := X.blk s H scope (compEnvC scope cl C X.env) fp) O.nd (O.tgK k1 k2' s H C cl fp)) (fun b al s σ H d x s2 Q R r e q => tg_run O.K tg1 b al s σ H d x s2 Q R r e q) (fun s H C cl fp => sCond cond1 _ _ W0 _ (O.blk k1 s H scope C cl fp) k10)
                (fun s H C cl fp => pe_V (sE elt _ _ W0 _ (O.blk k1 s H scope C cl fp) k11).1) (fun x => foldedSet k6 _ x) (fun env x => foldedSet k9 env x)
            · cases h2
          | cst d => cases d <;> simp [chE, cstB] at h2
          | _ => simp [chE] at h2
        · cases h3
    · cases h
  | .set (.tup is) e, X, g, c, W, st, O, h => by
    unfold chS at h
    split at h
    · rename_i t v pos
      simp only [Bool.and_eq_true] at h
      obtain ⟨⟨h1, h2⟩, h3⟩ := h
      have en : ex Φ (.set (.tup is) e) = fun s => (toV (ev Φ e s)).run fun d s => match bindT (.tup is) d s with | some s => .next s | none => .bad := by funext s; rw [ex] <;> rfl
      rw [en]
      have ht := O.tg h1
      cases ht with
      | tup hc hn => exact ps_setT O.K O.nd (.tup hc hn) (sE e X c W v O h2).1 sw_tup (plainRight_ok (by rw [O.sc]; exact h3))
    · cases h
  | .shr i e, X, g, c, W, st, O, h => by
    unfold chS at h
    split at h
    · simp only [Bool.and_eq_true] at h
      obtain ⟨⟨h1, h2⟩, h3⟩ := h
      have en : ex Φ (.shr i e) = fun s => (ev Φ e s).run fun r s => match r with
        | .own ds => .next { t := s.t.set i (some (.val (.ref s.h.length))), h := s.h ++ [ds] }
        | _ => .bad := by funext s; rw [ex] <;> rfl
      rw [en]
      exact ps_shr O.nd (O.st h1) (sE e X c W _ O h2).1 (sw_none h3 _ _ _)
    · cases h
  | .par i j a b, X, g, c, W, st, O, h => by
    unfold chS at h
    split at h
    · simp only [Bool.and_eq_true, decide_eq_true_eq] at h
      obtain ⟨⟨⟨⟨⟨⟨⟨⟨⟨⟨⟨⟨h1, h2⟩, h3⟩, h4⟩, h5⟩, h6⟩, h7⟩, h8⟩, h9⟩, h10⟩, h11⟩, h12⟩, h13⟩ := h
      have en : ex Φ (.par i j a b) = fun s => (toV (ev Φ a s)).run fun x s => (toV (ev Φ b s)).run fun y s => .next { s with t := (s.t.set i (some (.val x))).set j (some (.val y)) } := by funext s; rw [ex] <;> rfl
      rw [en]
      rw [← O.sc] at h3 h7 h8
      rw [← O.N] at h4 h5
      exact ps_parN (O.calm h2).1 O.nd h4 h5 h6 h7 h8 (sE a X c W _ O h9).1 (sE b X c W _ O h10).1 h11 h12 (pairOk_ok h3 h7 h8 h11 h12 h13) sw_tup
    · cases h
  | .aug i o e, X, g, c, W, st, O, h => by
    unfold chS at h
    split at h
    · simp only [Bool.and_eq_true, Bool.or_eq_true, decide_eq_true_eq] at h
      obtain ⟨⟨h1, h2⟩, h3⟩ := h
      have en : ex Φ (.aug i o e) = fun s => (toP (slGet s i)).run fun x s => (toP (ev Φ e s)).run fun y s => match augD o x y with
        | some z => .next { s with t := s.t.set i (some (.val (.int z))) }
        | none => .bad := by funext s; rw [ex] <;> rfl
      rw [en]
      exact ps_augN O.nd (O.st h1) (sE e X c W _ O h2).1 h3
    · cases h
  | .seti x ix e, X, g, c, W, st, O, h => by
    unfold chS at h
    split at h
    · simp only [Bool.and_eq_true] at h
      obtain ⟨⟨⟨h1, h2⟩, h3⟩, h4⟩ := h
      have en : ex Φ (.seti x ix e) = fun s => (toV (ev Φ e s)).run fun d s => (ev Φ x s).run fun r s => (toP (ev Φ ix s)).run fun k s => putAt r k d s := by funext s; rw [ex] <;> rfl
      rw [en]
      exact ps_seti (by have := O.units; omega) (sE x X c W _ O h1).1 (sE ix X c W _ O h2).1 (sE e X c W _ O h3).1 h4
    · cases h
  | .augi x ix o e, X, g, c, W, st, O, h => by
    unfold chS at h
    split at h
    · simp only [Bool.and_eq_true, Bool.or_eq_true, decide_eq_true_eq] at h
      obtain ⟨⟨⟨⟨h1, h2⟩, h3⟩, h4⟩, h5⟩ := h
      have en : ex Φ (.augi x ix o e) = fun s => (ev Φ x s).run fun r s => (toP (ev Φ ix s)).run fun k s => match getAt r k s with
        | none => .bad
        | some a => (toP (ev Φ e s)).run fun y s => match augD o a y with
          | some z => putAt r k (.int z) s
          | none => .bad := by funext s; rw [ex] <;> rfl
      rw [en]
      exact ps_augi O.K (by have := O.units; omega) (sE x X c W _ O h1).1 (sE ix X c W _ O h2).1 (sE e X c W _ O h3).1 h4 h5
    · cases h
  | .appop x y i, X, g, c, W, st, O, h => by
    unfold chS at h
    split at h
    · simp only [Bool.and_eq_true, decide_eq_true_eq] at h
      obtain ⟨⟨⟨⟨⟨⟨⟨⟨⟨rfl, rfl⟩, h1⟩, h2⟩, h3⟩, h4⟩, h5⟩, h6⟩, h7⟩, h8⟩ := h
      have en : ex Φ (.appop x y i) = fun s => (ev Φ x s).run fun r s => if isLst r then (ev Φ y s).run fun r2 s => if isLst r2 then (toI (toP (ev Φ i s))).run fun k s => appopAt r r2 k s else .bad else .bad := by funext s; rw [ex] <;> rfl
      rw [en]
      exact ps_appop (sE x X c W _ O h1).1 (sE y X c W _ O h2).1 (sE i X c W _ O h3).1 h4 h5 h7 h6 h8
    · cases h
  | .fork t i b, X, g, c, W, st, O, h => by
    unfold chS at h
    split at h
    · simp only [Bool.and_eq_true] at h
      obtain ⟨⟨⟨h1, h2⟩, h3⟩, h4⟩ := h
      have en : ex Φ (.fork t i b) = fun s => match s.t[i]? with
        | some (some (.dct kvs)) => if noLdk s then endK i (forGo (bindT t) (fun s => exs Φ b s) (kvs.map fun q => keyD q.1) { s with t := s.t.set i (some (.ldk kvs)) }) else .bad
        | _ => .bad := by funext s; rw [ex] <;> rfl
      rw [en]
      obtain ⟨k1, k2, k3, k4⟩ := O.nm h3
      exact ps_fork O.K O.own (O.calm h1).1 k1 k2 k3 k4 (tg_pg O.nd (O.tg h2)) fun a => sSs b X _ c W _ (O.lkd a) h4
    · cases h
  | .app x e, X, g, c, W, st, O, h => by
    unfold chS at h
    split at h
    · simp only [Bool.and_eq_true, decide_eq_true_eq] at h
      obtain ⟨⟨⟨⟨⟨rfl, h1⟩, h2⟩, h3⟩, h4⟩, h5⟩ := h
      have en : ex Φ (.app x e) = fun s => (ev Φ x s).run fun r s => if isLst r then (toV (ev Φ e s)).run fun d s => pushAt r d s else .bad := by funext s; rw [ex] <;> rfl
      rw [en]
      exact ps_app (sE x X c W _ O h1).1 (sE e X c W _ O h2).1 h3 h4 h5
    · cases h
  | .pop x, X, g, c, W, st, O, h => by
    unfold chS at h
    split at h
    · simp only [Bool.and_eq_true, decide_eq_true_eq] at h
      obtain ⟨⟨⟨rfl, h1⟩, h3⟩, h4⟩ := h
      have en : ex Φ (.pop x) = fun s => (ev Φ x s).run fun r s => popAt r s := by funext s; rw [ex] <;> rfl
      rw [en]
      exact ps_pop (sE x X c W _ O h1).1 h3 h4
    · cases h
  | .ext x e, X, g, c, W, st, O, h => by
    unfold chS at h
    split at h
    · simp only [Bool.and_eq_true, decide_eq_true_eq] at h
      obtain ⟨⟨⟨⟨⟨rfl, h1⟩, h2⟩, h3⟩, h4⟩, h5⟩ := h
      have en : ex Φ (.ext x e) = fun s => (ev Φ x s).run fun r s => if isLst r then (ev Φ e s).run fun r2 s => match r2.items with
        | some es => pushAll r es s
        | none => .bad
      else .bad := by funext s; rw [ex] <;> rfl
      rw [en]
      exact ps_ext (sE x X c W _ O h1).1 (sE e X c W _ O h2).1 h3 h4 h5
    · cases h
  | .expr e, X, g, c, W, st, O, h => by
    unfold chS at h
    split at h
    · simp only [Bool.and_eq_true] at h
      have en : ex Φ (.expr e) = fun s => (ev Φ e s).run fun _ s => .next s := by funext s; rw [ex] <;> rfl
      rw [en]
      exact ps_expr' (sE e X c W _ O h.1).1 (sw_none h.2 _ _ _)
    · cases h
  | .ite k a b, X, g, c, W, st, O, h => by
    unfold chS at h
    split at h
    · simp only [Bool.and_eq_true] at h
      obtain ⟨⟨h1, h2⟩, h3⟩ := h
      have en : ex Φ (.ite k a b) = fun s => (toT (toP (ev Φ k s))).run fun q s => if q then exs Φ a s else exs Φ b s := by funext s; rw [ex] <;> rfl
      rw [en]
      exact ps_ite' (sE k X c W _ O h1).2 (sSs a X g c W _ O h2) (sSs b X g c W _ O h3)
    · cases h
  | .while k b, X, g, c, W, st, O, h => by
    unfold chS at h
    split at h
    · simp only [Bool.and_eq_true] at h
      obtain ⟨h1, h2⟩ := h
      have en : ex Φ (.while k b) = fun s => (fixF (whTurn (fun s => toT (toP (ev Φ k s))) (fun s => exs Φ b s)) s).getD .bad := by funext s; rw [ex] <;> rfl
      rw [en]
      exact ps_while' O.own (sE k X c W _ O h1).2 (sSs b X g c W _ O h2)
    · cases h
  | .for t it b, X, g, c, W, st, O, h => by
    unfold chS at h
    split at h
    · simp only [Bool.and_eq_true] at h
      obtain ⟨⟨⟨⟨h1, h2⟩, h3⟩, h4⟩, h5⟩ := h
      have en : ex Φ (.for t it b) = fun s => (evI Φ it s).run fun ds s => forGo (bindT t) (fun s => exs Φ b s) ds s := by funext s; rw [ex] <;> rfl
      rw [en]
      exact ps_for' O.K O.own (O.calm h1).1 (sI it X c W _ _ O h1 h3) (tg_pg O.nd (O.tg h2)) (sSs b X g c W _ O h5) (fun x => foldedSet h4 _ x)
    · cases h
  | .ret e, X, g, c, W, st, O, h => by
    unfold chS at h
    split at h
    · have en : ex Φ (.ret e) = fun s => (ev Φ e s).run fun r s => .ret r s := by funext s; rw [ex] <;> rfl
      rw [en]
      exact ps_ret' (sE e X c W _ O h).1
    · cases h
  | .retN, X, g, c, W, st, O, h => by
    unfold chS at h
    split at h
    · have en : ex Φ .retN = fun s => .ret (.val .non) s := by funext s; rw [ex] <;> rfl
      rw [en]
      exact ps_retN'
    · cases h
  | .raise x k e, X, g, c, W, st, O, h => by
    unfold chS at h
    split at h
    · simp only [Bool.and_eq_true, decide_eq_true_eq] at h
      obtain ⟨⟨⟨⟨⟨rfl, h1⟩, h2⟩, h3⟩, h4⟩, h5⟩ := h
      have en : ∀ x, ex Φ (.raise x k e) = fun s => (toV (ev Φ e s)).run fun d s => if smallD d then .exc k d s else .bad := by intro x; funext s; rw [ex] <;> rfl
      rw [en]
      exact ps_raise' (O.calm h1).1 O.tk (O.calm h1).2 (O.made _ _ h3) (O.gl h2).1 h4 (sE e X c W _ O h5).1
    · cases h
  | .try b hs, X, g, c, W, st, O, h => by
    unfold chS at h
    split at h
    · rename_i body h₀ hds pos
      simp only [Bool.and_eq_true] at h
      obtain ⟨⟨⟨⟨h1, h2⟩, h3⟩, h4⟩, h5⟩ := h
      have hex : c.ex = none := by simpa using h3
      obtain ⟨l, hl1, hl2, hl3⟩ := sH hs X g c W _ O h5
      have en : ex Φ (.try b hs) = fun s => match exs Φ b s with | .exc q d s => runH q d (l.map (·.2)) s | r => r := by
        funext s
        rw [ex]
        cases exs Φ b s <;> first | rfl | exact hl1 _ _ _
      rw [en]
      exact ps_try' O.K (O.stk h1).1 (O.stk h1).2 O.nd O.tk hl2 (fun W' pn xe tk own => sSs b _ g c W' _ (O.tr hex tk own) h4) hl3
    · cases h
  | .pass, X, g, c, W, st, O, h => by
    unfold chS at h
    split at h
    · have en : ex Φ .pass = fun s => .next s := by funext s; rw [ex] <;> rfl
      rw [en]
      exact ps_pass'
    · cases h
  | .brk, X, g, c, W, st, O, h => by
    unfold chS at h
    split at h
    · have en : ex Φ .brk = fun s => .brk s := by funext s; rw [ex] <;> rfl
      rw [en]
      exact ps_brk'
    · cases h
  | .cnt, X, g, c, W, st, O, h => by
    unfold chS at h
    split at h
    · have en : ex Φ .cnt = fun s => .cnt s := by funext s; rw [ex] <;> rfl
      rw [en]
      exact ps_cnt'
    · cases h
theorem sSs : ∀ (ms : MSs) (X : Cx) (g : G) (c : Ctx) (W : WX) (ss : List Stmt), XOk X g T Φ lv c W → chSs T c ms ss = true → PSs X ss (rdS g W (exs Φ ms))
  | .nil, X, g, c, W, ss, O, h => by
    cases ss with
    | cons _ _ => simp [chSs] at h
    | nil =>
      have en : exs Φ .nil = fun s => .next s := by funext s; rw [exs]
      rw [en]
      exact pss_nil'
  | .cons m ms, X, g, c, W, ss, O, h => by
    cases ss with
    | nil => simp [chSs] at h
    | cons st ss =>
      simp only [chSs, Bool.and_eq_true] at h
      have en : exs Φ (.cons m ms) = fun s => match ex Φ m s with | .next s1 => exs Φ ms s1 | q => q := by
        funext s
        rw [exs] <;> (cases ex Φ m s <;> rfl)
      rw [en]
      exact pss_cons' (sS m X g c W st O h.1) (sSs ms X g c W ss O h.2)
theorem sH : ∀ (ms : MHs) (X : Cx) (g : G) (c : Ctx) (W : WX) (hs : List ExceptHandler), XOk X g T Φ lv c W → chH T c ms hs = true →
    ∃ l : List (Value × HP), (∀ q d s, exH Φ q d ms s = runH q d (l.map (·.2)) s) ∧ (∀ p ∈ l, (∀ k ∈ p.2.cs, PySem.W.exmOne g.K (.ref (g.C k)) p.1 = some true) ∧ ∀ k ∈ p.2.no, PySem.W.exmOne g.K (.ref (g.C k)) p.1 = some false) ∧
      HdsA X hs (l.map fun p => (p.1, p.2.i, tsOf g p.2))
  | .nil, X, g, c, W, hs, O, h => by
    cases hs with
    | cons _ _ => simp [chH] at h
    | nil => exact ⟨[], fun q d s => by rw [exH]; rfl, fun p hp => by simp at hp, .nil⟩
  | .cons x cs no i b r, X, g, c, W, hs, O, h => by
    unfold chH at h
    split at h
    · rename_i y np n s0 ss pos' hs'
      simp only [Bool.and_eq_true, decide_eq_true_eq] at h
      obtain ⟨⟨⟨⟨⟨⟨rfl, h1⟩, h2⟩, h3⟩, h4⟩, h5⟩, h6⟩ := h
      obtain ⟨l, hl1, hl2, hl3⟩ := sH r X g c W _ O h6
      obtain ⟨v, hv, hcs, hno⟩ := O.hnd _ _ _ h4
      rw [O.K] at hcs hno
      refine ⟨(v, ⟨cs, no, i, exs Φ b⟩) :: l, fun q d s => ?_, fun p hp => ?_, ?_⟩
      · rw [exH, hl1]
        rfl
      · rcases List.mem_cons.mp hp with rfl | hp
        · exact ⟨fun k hk => (hcs k hk).1, hno⟩
        · exact hl2 p hp
      · refine .cons (by rw [O.N]; exact h1) (by show X.env.scope.names.lookup n = _; rw [O.sc]; exact h2) ⟨(O.gl h3).1, (O.gl h3).2, .inl hv⟩ (fun a oe cls d pn hz hf => ?_) hl3
        refine ⟨fun pins s σ H D I ⟨k, dd, e1, e2, hk, hr⟩ => ?_⟩
        subst e1; subst e2
        have hk : k ∈ cs := by simpa using hk
        cases cs with
        | nil => cases hk
        | cons k0 cs0 =>
          simp only [Bool.and_eq_true, List.all_eq_true, decide_eq_true_eq] at h5
          obtain ⟨f1, f2⟩ := h5
          have fo := (hcs k hk).2.2
          have eF : g.F k = T.fld k0 := by rw [(hcs k hk).2.1]; exact f1 k hk
          rw [← O.K, eF] at fo
          exact (sSs b _ _ _ W0 _ (O.suite hz hf eF fo) f2).run pins s σ H D I hr
    · cases h
end
end
end PI

namespace PI
open PySem PySem.Spec PyProof.Rows L2
/-- a def of the text: its name, its slots, how many are parameters, where it stands, its form -/
structure TxtDef where
  name : Str
  N : List Str
  np : Nat
  st : Stmt
  body : MSs
  own : Str := name
def TxtDef.def (t : TxtDef) : Def := ⟨t.name, t.np, t.N.length, t.body⟩
def TxtDef.ctx (t : TxtDef) : Ctx := { N := t.N, sc := defScope t.st, calm := true, ex := none, top := true }
def TxtDef.ok (T : Tab) (t : TxtDef) : Bool := chSs T t.ctx t.body (defBody t.st) && C8.scC t.N (t.N.take t.np) (defScope t.st) && decide (t.np ≤ t.N.length)
section
variable {P : Program} {w : World} {K : PySem.W.Frag} {mg : Str → Option Value} {base : Heap} {g : G} {T : Tab} {ts : List TxtDef}
structure EnvOk (P : Program) (K : PySem.W.Frag) (mg : Str → Option Value) (g : G) (T : Tab) (ts : List TxtDef) : Prop where
  hK : K = g.K
  lk : g.lk = none
  blt : ∀ x ∈ bltNames, mg x = none
  glb : ∀ x n, T.glb.lookup x = some n → ∃ t, mg x = some (.int n t)
  made : ∀ x k, T.exc.lookup x = some k → MkOk P K mg (g.C k) (g.F k) x
  hnd : ∀ x cs no, T.hnd.lookup x = some (cs, no) → ∃ v, mg x = some v ∧ (∀ k ∈ cs, PySem.W.exmOne K (.ref (g.C k)) v = some true ∧ g.F k = T.fld k ∧ FldOk K (g.C k) (g.F k)) ∧ ∀ k ∈ no, PySem.W.exmOne K (.ref (g.C k)) v = some false
  inj : ∀ k k', g.C k = g.C k' → k = k'
  fns : T.fns = ts.map fun t => (t.name, t.np)
  ok : ∀ t ∈ ts, t.ok T = true
  funs : ∀ t ∈ ts, ∃ qual f fd, mg t.name = some (.ref f) ∧ L2.Fun K t.own qual t.st f fd ∧ L2.Binds K fd (t.N.take t.np) []
theorem inj_of {l : List Addr} (nd : l.Nodup) (sm : ∀ c ∈ l, c < 1000000000) (k k' : Nat) (h : l[k]?.getD (1000000000 + k) = l[k']?.getD (1000000000 + k')) : k = k' := by
  cases e : l[k]? with
  | none =>
    cases e' : l[k']? with
    | none => rw [e, e'] at h; simp only [Option.getD_none] at h; exact Nat.add_left_cancel h
    | some c => rw [e, e'] at h; simp only [Option.getD_none, Option.getD_some] at h; have := sm c (List.mem_of_getElem? e'); rw [← h] at this; exact absurd this (by have : 1000000000 ≤ 1000000000 + k := Nat.le_add_right _ _; exact Nat.not_lt.mpr this)
  | some c =>
    cases e' : l[k']? with
    | none => rw [e, e'] at h; simp only [Option.getD_none, Option.getD_some] at h; have := sm c (List.mem_of_getElem? e); rw [h] at this; exact absurd this (by have : 1000000000 ≤ 1000000000 + k' := Nat.le_add_right _ _; exact Nat.not_lt.mpr this)
    | some c' => rw [e, e'] at h; simp only [Option.getD_some] at h; subst h; exact nodup_at nd e e'
theorem look_fn {f : Str} {n : Nat} : ∀ {ts : List TxtDef}, (ts.map fun t => (t.name, t.np)).lookup f = some n → ∃ t ∈ ts, t.name = f ∧ t.np = n ∧ lookD (ts.map TxtDef.def) f = some t.def
  | [], h => by simp at h
  | t :: ts, h => by
    rw [List.map_cons, List.lookup_cons] at h
    by_cases e : f = t.name
    · subst e
      simp only [beq_self_eq_true] at h
      cases h
      exact ⟨t, List.mem_cons_self, rfl, rfl, by unfold lookD; rw [List.map_cons, List.find?_cons_of_pos (by simp [TxtDef.def])]⟩
    · have : (f == t.name) = false := by simpa using e
      rw [this] at h
      obtain ⟨t', h1, h2, h3, h4⟩ := look_fn h
      refine ⟨t', List.mem_cons_of_mem _ h1, h2, h3, ?_⟩
      unfold lookD at h4 ⊢
      rw [List.map_cons, List.find?_cons_of_neg (by simp only [TxtDef.def]; intro z; exact e (of_decide_eq_true z).symm)]
      exact h4
theorem rel_start {H : Hp} {al : List Addr} {ds : List D} {vs : List V} {h : List (List D)} {N : List Str} (r : Reps g.K al H ds vs) (c : CellsOk g.K al h H) : Rel g ⟨H, al⟩ al ⟨startT N.length ds, h⟩ (L2.start N vs) H := by
  have hl := r.length
  have val : ∀ (i : Nat) (x : Sl), (startT N.length ds)[i]? = some (some x) → ∃ d, x = .val d ∧ ds[i]? = some d := fun i x e => by
    unfold startT at e
    by_cases hi : i < ds.length
    · rw [List.getElem?_append_left (by simpa using hi), List.getElem?_map] at e
      cases q : ds[i]? with
      | none => rw [q] at e; cases e
      | some d => rw [q] at e; cases e; exact ⟨d, rfl, rfl⟩
    · rw [List.getElem?_append_right (by simp; omega)] at e
      rw [List.getElem?_replicate] at e
      split at e <;> cases e
  refine ⟨by unfold startT L2.start; simp [hl], fun i x e => ?_, fun i j x y a hij ei ej ox oy => ?_, c.cell, c.alen, c.nd, fun a o e _ => e, fun a ha => .inl ha, fun k a e => e⟩
  · obtain ⟨d, rfl, ed⟩ := val i x e
    obtain ⟨v, ev, rv⟩ := r.get ed
    refine ⟨v, ?_, rv⟩
    unfold L2.start
    rw [List.getElem?_append_left (by rw [List.length_map]; exact (List.getElem?_eq_some_iff.mp ev).1), List.getElem?_map, ev]
    rfl
  · obtain ⟨d, rfl, _⟩ := val i x ei
    cases ox
theorem al_eq {al al' : List Addr} (a : AlX al al') (h : al'.length = al.length) : al' = al := by
  apply List.ext_getElem?
  intro i
  by_cases hi : i < al.length
  · rw [List.getElem?_eq_getElem hi]
    exact a i _ (List.getElem?_eq_getElem hi)
  · rw [List.getElem?_eq_none (by omega), List.getElem?_eq_none (by omega)]
theorem endF_next (k : Nat) (s : S) : endF k (.next s) = if s.h.length = k then .ok (.val .non) s.h else .bad := rfl
theorem endF_exc (k : Nat) (c : Nat) (d : D) (s : S) : endF k (.exc c d s) = if s.h.length = k then .exc c d s.h else .bad := rfl
theorem endF_ret (k : Nat) (r : RV) (s : S) : endF k (.ret r s) = if s.h.length = k then endV r s.h else if k = 0 then endB r else .bad := rfl
theorem end_ok {H : Hp} {al : List Addr} {h : List (List D)} {r : R} {Q : VK} {E : XK} (hlk : g.lk = none) (hal : al.length = h.length)
    (q : match endF h.length r with
      | .ok r h' => ∀ v H', Keep al H H' → CellsOk g.K al h' H' → FRep g.K al H H' r v → Q v H'
      | .exc c d h' => ∀ cls dd H', Keep al H H' → CellsOk g.K al h' H' → ExcRep g al H' c d cls dd → E cls (some dd) H'
      | .bad => False) : PostS g ⟨H, al⟩ (fun cls d _ H => E cls d H) { nx := fun _ H' => Q .non H', rt := Q } al H r := by
  have kp : ∀ {al' : List Addr} {s : S} {σ : L2.St} {H' : Hp}, Rel g ⟨H, al⟩ al' s σ H' → Keep al H H' := fun R a o n e => R.base a o e n
  cases r with
  | next s =>
    intro al' σ' H' ax st R
    rw [endF_next] at q
    by_cases hk : s.h.length = h.length
    · rw [if_pos hk] at q
      have := al_eq ax (by rw [R.alen, hk, hal])
      subst this
      exact q _ _ (kp R) R.cells (by unfold FRep Rep; rfl)
    · rw [if_neg hk] at q
      exact q.elim
  | brk s => exact q.elim
  | cnt s => exact q.elim
  | bad => exact q.elim
  | exc c d s =>
    intro al' σ' cls dd H' ax st R er
    rw [endF_exc] at q
    by_cases hk : s.h.length = h.length
    · rw [if_pos hk] at q
      have := al_eq ax (by rw [R.alen, hk, hal])
      subst this
      exact q _ _ _ (kp R) R.cells er
    · rw [if_neg hk] at q
      exact q.elim
  | ret rv s =>
    intro al' σ' v H' ax st R rr
    rw [endF_ret] at q
    by_cases hk : s.h.length = h.length
    · rw [if_pos hk] at q
      have := al_eq ax (by rw [R.alen, hk, hal])
      subst this
      cases rv with
      | val d => exact q v H' (kp R) R.cells rr
      | own ds =>
        obtain ⟨a, vs, e1, e2, e3, e4, e5, e6⟩ := rr
        exact q v H' (kp R) R.cells ⟨a, vs, e1, e2, e3, e5⟩
      | loc i ds =>
        obtain ⟨a, vs, e1, e2, e3, e4, e5⟩ := R.own rr.1 rr.2
        exact q v H' (kp R) R.cells ⟨a, vs, e1, e2, e3, e5⟩
      | dct ds =>
        obtain ⟨a, vs, e1, e2, e3, e4, e5, e6⟩ := rr
        exact q v H' (kp R) R.cells ⟨a, vs, e1, e2, e3, e5⟩
      | ldc i ds =>
        obtain ⟨rr1, rr2⟩ := rr
        rcases rr1 with rr1 | rr1
        · obtain ⟨w, ew, a, vs, e1, e2, e3, e4, e5⟩ := R.sl i _ rr1
          rw [rr2] at ew; cases ew
          exact q v H' (kp R) R.cells ⟨a, vs, e1, e2, e3, e5⟩
        · obtain ⟨w, ew, a, o, vs, e1, _⟩ := R.sl i _ rr1
          rw [hlk] at e1; cases e1
    · rw [if_neg hk] at q
      by_cases h0 : h.length = 0
      · rw [if_pos h0] at q
        have hal0 : al = [] := List.length_eq_zero_iff.mp (by rw [hal, h0])
        subst hal0
        cases rv with
        | val d =>
          cases d with
          | bl b =>
            have rr : Rep g.K al' H' (.bl b) v := rr
            unfold Rep at rr
            exact q v H' (kp R) ⟨rfl, List.nodup_nil, fun k ds e => by simp at e⟩ (by unfold FRep Rep; exact rr)
          | _ => exact q.elim
        | _ => exact q.elim
      · rw [if_neg h0] at q
        exact q.elim
theorem defs_ok (Eo : EnvOk P K mg g T ts) : ∀ (lv : Nat) (f : Str) (n : Nat), T.fns.lookup f = some n → ∃ a fd ps, ps.length = n ∧ mg f = some (.ref a) ∧ PySem.W.keepIn K (.ref a) = true ∧
    FnOk P w K mg base (L2.CX P w) lv a fd ps (spF g (Phi (ts.map TxtDef.def) lv) f n) ∧ L2.Binds K fd ps []
  | 0, f, n, h => by
    rw [Eo.fns] at h
    obtain ⟨t, ht, rfl, rfl, hd⟩ := look_fn h
    obtain ⟨qual, a, fd, h1, h2, h3⟩ := Eo.funs t ht
    have hok := Eo.ok t ht
    simp only [TxtDef.ok, Bool.and_eq_true, decide_eq_true_eq] at hok
    have hp : (t.N.take t.np).length = t.np := by rw [List.length_take]; omega
    refine ⟨a, fd, t.N.take t.np, hp, h1, h2.kp, ⟨fun vs H Q E ⟨al, ds, h, e, _⟩ => by rw [hp]; exact e, fun A outer s H args us vs Q E hr he hb hv ⟨al, ds, h, _, _, _, q⟩ => ?_⟩, h3⟩
    unfold Phi at q
    exact q.elim
  | lv + 1, f, n, h => by
    have ih := defs_ok Eo lv
    rw [Eo.fns] at h
    obtain ⟨t, ht, rfl, rfl, hd⟩ := look_fn h
    obtain ⟨qual, a, fd, h1, h2, h3⟩ := Eo.funs t ht
    have hok := Eo.ok t ht
    simp only [TxtDef.ok, Bool.and_eq_true, decide_eq_true_eq] at hok
    obtain ⟨⟨k1, k2⟩, k3⟩ := hok
    have hp : (t.N.take t.np).length = t.np := by rw [List.length_take]; omega
    have FS : FnScope t.N (t.N.take t.np) (defScope t.st) := C8.fnScope_by k2
    refine ⟨a, fd, t.N.take t.np, hp, h1, h2.kp, ?_, h3⟩
    refine L2.Fun.okX h2 FS (fun vs H Q E ⟨al, ds, h, e, _⟩ => by rw [hp]; exact e) fun cdv A outer s H vs Q E hr ⟨al, ds, h, hl, rs, co, q⟩ => ?_
    refine ⟨rdS g (fun cls d _ H => E cls d H) (exs (Phi (ts.map TxtDef.def) lv) t.body), sSs (T := T) (lv := lv) t.body _ g t.ctx _ _ ?_ k1, ⟨H, al⟩, al, ⟨startT t.N.length ds, h⟩, rel_start rs co, ?_⟩
    · exact {
        K := Eo.hK
        N := rfl
        sc := rfl
        nd := FS.nd
        tk := takes_of rfl rfl rfl rfl
        own := passes_of rfl
        units := by have := hr.un; show (A.deeper _).units + 65 < _; omega
        calm := fun _ => ⟨rfl, hr⟩
        top := fun _ _ => rfl
        stk := fun _ => ⟨rfl, rfl⟩
        blt := Eo.blt
        glb := Eo.glb
        fn := fun f n hf => ih f n hf
        ex := fun i f z => by cases z
        made := Eo.made
        hnd := Eo.hnd
        inj := Eo.inj }
    · have hds : ds.length = t.def.ps := by rw [rs.length, hl]; rfl
      refine end_ok Eo.lk co.alen ?_
      unfold Phi at q
      rw [hd] at q
      dsimp only at q
      rw [if_pos hds] at q
      exact q
end
end PI

namespace PI
open PySem PySem.Spec PyProof.Rows L2
section
variable {P : Program} {w : World} {K : PySem.W.Frag} {mg : Str → Option Value} {base : Heap} {g : G} {T : Tab} {ts : List TxtDef}
/-- _law_pool: a new list, the script's copy in it -/
def spPool (K : PySem.W.Frag) : Sp := fun vs H Q _ => ∃ (a : Addr) (ns : List Int) (i : Int), vs = [.ref a, .int i] ∧ SqL K H a (ns.map V.int) ∧
  ∀ H' p q o, H' p = some (.lst [.ref q, .int 0, .int 0, .int 1, .int 0, .int i]) → H' q = some (.frz o (.lst (ns.map V.int))) → Q (.ref p) H'
/-- how its body is written -/
def poolBody (b : List Stmt) : Bool := match b with
  | [.Return (some (.List [.Call (.Name x _) [.Name y _] [] _, .Constant (.int 0) _ _, .Constant (.int 0) _ _, .Constant (.int 1) _ _, .Constant (.int 0) _ _, .Name z _] _)) _] => decide (x = "list") && decide (y = "script") && decide (z = "budget")
  | _ => false
def poolOk (st : Stmt) : Bool := poolBody (defBody st) && C8.scC ["script", "budget"] ["script", "budget"] (defScope st) && decide ((defScope st).names.lookup ("list" : Str) = some NameKind.globalImplicit)
theorem pool_fn {qual : Str} {st : Stmt} {f : Addr} {fd : FuncData} (F : L2.Fun K "_law_pool" qual st f fd) (h : poolOk st = true) (hb : ∀ x ∈ bltNames, mg x = none) : FnOk P w K mg base (L2.CX P w) 1 f fd ["script", "budget"] (spPool K) := by
  simp only [poolOk, Bool.and_eq_true, decide_eq_true_eq] at h
  obtain ⟨⟨h1, h2⟩, h3⟩ := h
  have FS := C8.fnScope_by h2
  refine L2.Fun.okX F FS (fun vs H Q E ⟨a, ns, i, e, _⟩ => by rw [e]; rfl) fun cdv A outer s H vs Q E hr ⟨a, ns, i, ev, hs, q⟩ => ?_
  subst ev
  unfold poolBody at h1
  split at h1
  · rename_i x p0 y p1 p2 c1 c2 c3 c4 c5 c6 c7 c8 z p3 p4 p5 e
    simp only [Bool.and_eq_true, decide_eq_true_eq] at h1
    obtain ⟨⟨rfl, rfl⟩, rfl⟩ := h1
    rw [e]
    have hc : CallR (cxOf (L2.CX P w) P w K mg base ["script", "budget"] qual (defScope st) f cdv A outer s H E) (.type "list") _ := call_list_of
    refine ⟨_, pss_one (ps_ret (pe_lst (pa_cons (pe_callTy (p := p0) (pos := p2) hc h3 (hb _ (by decide)) (by decide +kernel) (pa_cons (pe_var (i := 0) (pos := p1) rfl (by rcases FS.par "script" (by decide) with k | k; exact .inl k; exact .inr (.inl k))) pa_nil)).frz
      (pa_cons pe_int (pa_cons pe_int (pa_cons pe_int (pa_cons pe_int (pa_cons (pe_var (i := 1) rfl (by rcases FS.par "budget" (by decide) with k | k; exact .inl k; exact .inr (.inl k))) pa_nil)))))))), ?_⟩
    refine ⟨.ref a, rfl, a, ns.map V.int, rfl, .inl hs, fun l hl => .inr ⟨l, _, rfl, upd_same, fun o => ?_⟩⟩
    refine ⟨.int i, rfl, (by show 6 ≤ sizeLine; decide), fun p hp => q _ p l o upd_same ?_⟩
    rw [upd_ne (fun z => by subst z; rw [upd_same] at hp; cases hp)]
    exact upd_same
  · cases h1
/-- the law's def: the pool, then the rest -/
def spLaw (K : PySem.W.Frag) (n : Nat) : Sp := fun vs H Q _ => ∃ (a : Addr) (ns : List Int), vs = [.ref a] ∧ ns.length ≤ n ∧ SqL K H a (ns.map V.int) ∧ ∀ H', Q (.bl true) H'
def lawBody (st : Stmt) : Option (List Stmt) := match defBody st with
  | .Assign [.Name x _] (.Call (.Name f _) [.Name y _, .Constant (.int 0) _ _] [] _) _ :: rest => if x = "pool" ∧ f = "_law_pool" ∧ y = "script" then some rest else none
  | _ => none
def poolD (ns : List Int) : List D := [.lst (ns.map D.int), .int 0, .int 0, .int 1, .int 0, .int 0]
def lawS (t : TxtDef) (ip : Nat) (ns : List Int) : S := ⟨(List.replicate t.N.length none).set ip (some (.val (.ref 0))), [poolD ns]⟩
def lawOk (T : Tab) (t : TxtDef) (ip : Nat) : Bool := (match lawBody t.st with | some rest => chSs T t.ctx t.body rest | none => false) && C8.scC t.N ["script"] (defScope t.st) && stB t.ctx ip "pool" && decide ((defScope t.st).names.lookup ("_law_pool" : Str) = some NameKind.globalImplicit)
theorem law_fn (Eo : EnvOk P K mg g T ts) {lv n ip : Nat} {t : TxtDef} {qual : Str} {f fp : Addr} {fd fdp : FuncData} {stp : Stmt} {qp : Str} (F : L2.Fun K "law" qual t.st f fd) (FP : L2.Fun K "_law_pool" qp stp fp fdp) (hmp : mg "_law_pool" = some (.ref fp)) (bp : L2.Binds K fdp ["script", "budget"] [])
    (hp : poolOk stp = true) (hok : lawOk T t ip = true)
    (hpure : ∀ ns : List Int, ns.length ≤ n → ∃ s', exs (Phi (ts.map TxtDef.def) (lv + 1)) t.body (lawS t ip ns) = .ret (.val (.bl true)) s') :
    FnOk P w K mg base (L2.CX P w) (lv + 2) f fd ["script"] (spLaw K n) := by
  simp only [lawOk, Bool.and_eq_true, decide_eq_true_eq] at hok
  obtain ⟨⟨⟨h0, h3⟩, h4⟩, h5⟩ := hok
  obtain ⟨rest, h1, h2⟩ : ∃ rest, lawBody t.st = some rest ∧ chSs T t.ctx t.body rest = true := by
    cases e : lawBody t.st with
    | none => rw [e] at h0; cases h0
    | some rest => rw [e] at h0; exact ⟨rest, rfl, h0⟩
  have FS := C8.fnScope_by h3
  refine L2.Fun.okX F FS (fun vs H Q E ⟨a, ns, e, _⟩ => by rw [e]; rfl) fun cdv A outer s H vs Q E hr ⟨a, ns, ev, hl, hs, q⟩ => ?_
  subst ev
  unfold lawBody at h1
  split at h1
  · rename_i x p0 f' p1 y p2 c1 c2 p3 p4 rest' e
    split at h1
    · rename_i hxy
      obtain ⟨rfl, rfl, rfl⟩ := hxy
      cases h1
      have XO : XOk (cxOf (L2.CX P w) P w K mg base t.N qual (defScope t.st) f cdv A outer s H E) g T (Phi (ts.map TxtDef.def) (lv + 1)) (lv + 1) t.ctx (fun cls d _ H => E cls d H) := {
        K := Eo.hK
        N := rfl
        sc := rfl
        nd := FS.nd
        tk := takes_of rfl rfl rfl rfl
        own := passes_of rfl
        units := by have := hr.un; show (A.deeper _).units + 65 < _; omega
        calm := fun _ => ⟨rfl, hr⟩
        top := fun _ _ => rfl
        stk := fun _ => ⟨rfl, rfl⟩
        blt := Eo.blt
        glb := Eo.glb
        fn := fun f n hf => defs_ok Eo (lv + 1) f n hf
        ex := fun i f z => by cases z
        made := Eo.made
        hnd := Eo.hnd
        inj := Eo.inj }
      have GP : FnOk P w K mg base (L2.CX P w) (lv + 1) fp fdp ["script", "budget"] (spPool K) := (pool_fn FP hp Eo.blt).mono (Nat.le_add_left 1 lv)
      have hst := XO.st h4
      have hn0 : t.N[0]? = some ("script" : Str) := by
        have := FS.pre
        cases hN : t.N with
        | nil => rw [hN] at this; simp at this
        | cons u v => rw [hN] at this; simp at this; rw [this]; rfl
      obtain ⟨tn, hN⟩ : ∃ tn, t.N = ("script" : Str) :: tn := by
        cases hN : t.N with
        | nil => rw [hN] at hn0; simp at hn0
        | cons u v => rw [hN] at hn0; simp at hn0; exact ⟨v, by rw [hn0]⟩
      rw [e]
      refine ⟨_, pss_cons (ps_set FS.nd hst.ix hst.loc (pe_callS GP hr h5 hmp FP.kp bp (fun σ => passAt XO.tk σ) (pa_cons (pe_var (i := 0) hn0 (by rcases FS.par "script" (by decide) with k | k; exact .inl k; exact .inr (.inl k))) (pa_cons pe_int pa_nil))) (by rfl) hst.fn)
        (sSs t.body _ g t.ctx _ _ XO h2), ?_⟩
      refine ⟨.ref a, ?_, a, ns, 0, rfl, hs, fun H' p ql o h6 h7 => ?_⟩
      · unfold L2.start; rfl
      obtain ⟨s', hs'⟩ := hpure ns hl
      refine ⟨⟨fun _ => none, []⟩, [p], lawS t ip ns, ?_, ?_⟩
      · have hlen : (L2.start t.N [V.ref a]).length = t.N.length := by unfold L2.start; rw [hN]; simp
        have hgs : ∀ (i : Nat) (x : Sl), (lawS t ip ns).t[i]? = some (some x) → i = ip ∧ x = .val (.ref 0) ∧ ip < t.N.length := fun i x ex => by
          rcases get_set (show ((List.replicate t.N.length none).set ip (some (Sl.val (.ref 0))))[i]? = some (some x) from ex) with ⟨rfl, e2, hl⟩ | ⟨hj, e2⟩
          · cases e2; exact ⟨rfl, rfl, by simpa using hl⟩
          · rw [List.getElem?_replicate] at e2
            split at e2 <;> cases e2
        refine ⟨by show ((List.replicate t.N.length none).set ip (some (Sl.val (.ref 0)))).length = _; simp [hlen], fun i x ex => ?_, fun i j x y c hij ei ej ox oy => ?_, fun k ds ek => ?_, rfl, by simp, fun a o z => (by cases z), fun a _ => .inr rfl, fun k a z => (by simp at z)⟩
        · obtain ⟨rfl, rfl, hi⟩ := hgs i x ex
          refine ⟨.ref p, by rw [List.getElem?_set_self (by rw [hlen]; exact hi)], ?_⟩
          show Rep g.K [p] H' (.ref 0) (.ref p)
          unfold Rep
          exact ⟨p, rfl, rfl⟩
        · obtain ⟨_, rfl, _⟩ := hgs i x ei
          cases ox
        · cases k with
          | succ k => simp [lawS] at ek
          | zero =>
            simp [lawS] at ek
            subst ek
            refine ⟨p, _, rfl, h6, ?_⟩
            refine Reps.cons ?_ (Reps.cons ?_ (Reps.cons ?_ (Reps.cons ?_ (Reps.cons ?_ (Reps.cons ?_ Reps.nil)))))
            · unfold Rep
              exact ⟨ql, _, rfl, ⟨o, h7⟩, reps_ints ns⟩
            all_goals (unfold Rep; rfl)
      · rw [hs']
        intro al' σ' v H2 _ _ _ rv
        have rv : Rep g.K al' H2 (.bl true) v := rv
        unfold Rep at rv
        subst rv
        exact q H2
    · cases h1
  · cases h1
theorem cx_end {P : Program} {w : World} {H : Hp} {s : Shared} {e : Value} {s' : Shared} (h : L2.CX P w [] H s (fun _ _ _ => False) e s') : False := by
  obtain ⟨_, _, _, _, _, _, _, _, _, _, _, _, z⟩ := h
  exact z
end
end PI

set_option maxHeartbeats 2000000
namespace PI
open PySem PySem.Spec PySem.W PySem.Calls PyProof.Rows PySem.HandSPX
open L2 (Mod)

/-- the parts of the text of an error -/
def fparts (f : Str) : List Expr → Nat → Bool
  | [], n => decide (n ≤ 10000)
  | .Constant (.str z) _ _ :: r, n => fparts f r (n + z.length)
  | .FormattedValue (.Name x _) i none _ :: r, n => decide (x = f) && decide (i = -1) && fparts f r (n + 1000)
  | _ :: _, _ => false
theorem fparts_run {prog : Program} {w : World} {A : Around} {E : Value → Shared → Prop} {env : Env} {m : Str → Option Value} {f z : Str} {tz : Tok} (hk : env.scope.kind = .function) (hl : env.kindOf f = some .local) (hm : m f = some (.str z tz)) (hz : z.length ≤ 1000) (hd : (f == ("__debug__" : Str)) = false) :
    ∀ (es : List Expr) (n : Nat) (acc : Str) (s : Shared) (R : Str → Shared → Prop), fparts f es n = true → acc.length ≤ n → s.heap.Ns env.locals m → (∀ out tk, out.length ≤ 10000 → R out { s with toks := tk }) → Joins (model prog w) A E (evalEach es env) acc R s
  | [], n, acc, s, R, h, ha, hn, k => by
    have e0 : evalEach [] env = [] := by first | rfl | simp [evalEach]
    rw [e0]
    simp only [fparts, decide_eq_true_eq] at h
    exact k acc s.toks (Nat.le_trans ha h)
  | e :: es, n, acc, s, R, h, ha, hn, k => by
    have mono : ∀ (es : List Expr) (n : Nat), fparts f es n = true → n ≤ 10000 := by
      intro es
      induction es with
      | nil => intro n h; simpa [fparts] using h
      | cons e es ih =>
        intro n h
        unfold fparts at h
        split at h
        · simpa using h
        · rename_i q; cases q; have := ih _ h; omega
        · rename_i q; cases q; simp only [Bool.and_eq_true] at h; have := ih _ h.2; omega
        · cases h
    have e0 : evalEach (e :: es) env = eval e env :: evalEach es env := by first | rfl | simp [evalEach]
    rw [e0]
    have big : (10000 : Nat) ≤ sizeLine := by decide
    unfold fparts at h
    split at h
    · rename_i q; cases q
    · rename_i y ck cp r q
      cases q
      refine Calls.Constant_str ⟨y, _, rfl, ?_, fparts_run hk hl hm hz hd es _ (acc ++ y) { s with toks := s.toks + 1 } R h (by rw [strLen_append]; omega) hn fun out tk ho => k out tk ho⟩
      have := mono _ _ h
      rw [strLen_append]; omega
    · rename_i x p i p' r q
      cases q
      simp only [Bool.and_eq_true, decide_eq_true_eq] at h
      obtain ⟨⟨rfl, rfl⟩, h⟩ := h
      have hh := mono _ _ h
      refine wpAny_FormattedValue_plain (wpAny_Name (wpAny_loadName_local hk hl hn hm ?_) hd)
      have step : ∀ (s' : Shared), s'.heap = s.heap → (∀ out tk, out.length ≤ 10000 → R out { s' with toks := tk }) → ∀ t', ∃ y t, Value.str z t' = .str y t ∧ (acc ++ y).length ≤ sizeLine ∧ Joins (model prog w) A E (evalEach es env) (acc ++ y) R s' := fun s' eh k' t' =>
        ⟨z, t', rfl, by rw [strLen_append]; omega, fparts_run hk hl hm hz hd es _ (acc ++ z) s' R h (by rw [strLen_append]; omega) (by rw [eh]; exact hn) k'⟩
      exact wpAny_formatField_str (step s rfl k _) (step { s with toks := s.toks + 1 } rfl (fun out tk ho => k out tk ho) _) (by omega)
    · cases h

/-! ### an error's text -/
def exArgs (ar : Arguments) (f : Str) : Bool := match ar with
  | ⟨[], [a, b], none, [], [], none, []⟩ => decide (a.arg = "self") && decide (b.arg = f)
  | _ => false
def exBody (b : List Stmt) (f : Str) : Bool := match b with
  | [.Expr (.Call (.Attribute (.Call (.Name u _) [] [] _) i p2) [.JoinedStr (e1 :: e2 :: es) _] [] p4) _, .Assign [.Attribute (.Name x _) y _] (.Name z _) _] =>
    decide (u = "super") && decide (i = "__init__") && decide (x = "self") && decide (y = f) && decide (z = f) && (p2.endLine == p4.line) && fparts f (e1 :: e2 :: es) 0
  | _ => false
def exScope (sc : Scope) (f : Str) : Bool := decide (sc.kind = .function) && !sc.isCoroutine && !sc.isGenerator && decide (sc.names.lookup ("super" : Str) = some NameKind.globalImplicit) && decide (sc.names.lookup ("__class__" : Str) = some NameKind.free) &&
  decide (sc.names.lookup ("self" : Str) = some NameKind.local) && decide (sc.names.lookup f = some NameKind.local) && sc.names.all (fun y => !decide (y.2 = .cell)) && !(f == "self") && !(f == "__debug__")
/-- what the written part says of the error's class at C, of its __init__ at fI -/
structure ExTxt (P : Program) (K : Frag) (mg : Str → Option Value) (C fI : Addr) (f : Str) : Prop where
  cls : ∃ nm q N bs bm sn sub ab col dd k0 k1 k2 k3 k5, K.lookup C = some (excClassObj nm q C N bs bm true sn sub ab col dd k0 k1 k2 k3 k5 "ValueError.__new__") ∧ refsVE bm = true
  sa : findIn K (.ref C) "__setattr__" = some (some (.builtin "object.__setattr__"))
  noN : findIn K (.ref C) f = some none
  iC : findIn K (.ref C) "__init__" = some (some (.ref fI))
  tI : typeIn K (.ref fI) = some (.type "function")
  kC : keepIn K (.ref C) = true
  exC : subIn K (.ref C) (.type "BaseException") = some true
  veC : subIn K (.ref C) (.type "ValueError") = some true
  tyC : typeIn K (.ref C) = some (.type "type")
  self : mroIn K C (.ref C) = some true
  up : ks_superIn K C C "__init__" = some (some (.builtin "ValueError.__init__"))
  opq : nsIn K cStatics "thirdparty.any" = some none
  nosup : mg "super" = none
  top : (P.main.scope.names.lookup ("super" : Str)).isSome = false
  fn : ∃ (oc : Value) (od : Option Addr) (doc pm : Value) (an : Option Addr) (cda : Addr) (ct : Value) (osl : Array (Option Value)) (qual : Str) (ar : Arguments) (body : List Stmt) (sc : Scope) (cc : Addr),
    K.lookup fI = some ⟨oc, od, .func (ksFn "__init__" qual ar body sc .none .none doc pm an (.ref cda) ct cc), osl⟩ ∧ codeIn K (.ref cda) qual = true ∧ (∀ u v, bindArgs (ksFn "__init__" qual ar body sc .none .none doc pm an (.ref cda) ct cc) ⟨[u, v], []⟩ = pure [(("self" : Str), u), (f, v)]) ∧ exArgs ar f = true ∧ exBody body f = true ∧ exScope sc f = true ∧
    (∃ cl cld csl, K.lookup cc = some ⟨cl, cld, .cell (some (.ref C)), csl⟩) ∧ ∃ ccl cdd vs ccs file tf, K.lookup cda = some ⟨ccl, cdd, .fields vs, ccs⟩ ∧ vs[2]? = some (.str file tf) ∧ ((P.main.file : Str) == file) = true
/-- what __init__ leaves of a fresh error at x -/
structure ExEnd (h h' : Heap) (x C dx t1 : Addr) (f : Str) (v : Value) : Prop where
  keep : ∀ b o, b ≠ x → h.get? b = some o → h'.get? b = some o
  obj : h'.get? x = some { cls := .ref C, dict := some dx, data := .fields #[.ref t1, .none, .none, .none, .bool false, .none] }
  dbig : h.objs.size ≤ dx
  dne : dx ≠ x
  ns : h'.Ns1 dx (fun y => if y = f then some v else none)
structure ExMade (h h' : Heap) (e C d : Addr) (f : Str) (v : Value) : Prop where
  keep : ∀ b o, h.get? b = some o → h'.get? b = some o
  new : h.objs.size ≤ e
  obj : ∃ oe vs, h'.get? e = some oe ∧ oe.cls = .ref C ∧ oe.dict = some d ∧ oe.data = .fields vs ∧ vs[1]? = some .none
  dbig : h.objs.size ≤ d
  dne : d ≠ e
  ns : h'.Ns1 d (fun y => if y = f then some v else none)
theorem ex_size (v : Value) : [v].length ≤ sizeLine := by
  rw [sizeLine_eq]
  exact (by decide : 1 ≤ 16777216)
section
variable {P : Program} {w : World} {A : Around} {E : Value → Shared → Prop} {R : Result → Shared → Prop} {s : Shared} {K : Frag} {mg : Str → Option Value} {C fI : Addr} {f : Str} {base : Heap}
/-- the bound __init__ of the base is called -/
theorem call_mw {h : Heap} {g : Array GenState} {d : Drawn} {t : Nat} {os : OsState} {nm qn : Str} {N : Addr} {bs bm : List Value} {sn : List Str} {sub : List Value} {ab : Bool} {col : Option Bool} {dd : Option Addr} {k0 k1 k2 k3 k5 : Option Value} {u e t0 : Addr} {rest : List Value} {Q : Value → Shared → Prop}
    (hC : h.get? C = some (excClassObj nm qn C N bs bm true sn sub ab col dd k0 k1 k2 k3 k5 "ValueError.__new__")) (he : h.get? e = some (excO C t0)) (hu : h.get? u = some (kxs_mw "ValueError.__init__" e)) (hrest : rest.length ≤ sizeLine)
    (hq : ∀ h' t1, (∀ b o, b ≠ e → h.get? b = some o → h'.get? b = some o) → h'.get? e = some (excO C t1) → Q .none ⟨h', g, d, t, os⟩) :
    wpAny (model P w) A (call (.ref u) rest) Q E ⟨h, g, d, t, os⟩ := by
  refine wpAny_call (codeAny_of_tree ?_)
  show wpAny _ A.in1 (callAny (.ref u) ⟨rest, []⟩) _ _ _
  simp only [callAny]
  refine wpAny_bind (wpAny_load hu ?_)
  simp only [kxs_mw, show (Value.type "method-wrapper" == Value.type "method" || Value.type "method-wrapper" == Value.type "builtin_function_or_method" || Value.type "method-wrapper" == Value.type "method-wrapper") = true by decide, if_true]
  refine KFB.if_so (by decide) ?_
  refine wpAny_bind (check_bound_init F.excBase_ValueError.toExcCallFacts hC he rfl ?_)
  refine wpAny_bind (wpAny_pure (wpAny_pure ?_))
  refine ⟨plainId_quiet F.excBase_ValueError.init.plain _, codeAny_builtin F.excBase_ValueError.initEntry ?_⟩
  exact exc_init_tree (cls := .ref C) (t0 := t0) (dv := none) (c2 := .none) (c3 := .none) (b4 := .bool false) he hrest fun h' k1 k2 _ => hq h' _ k1 k2
theorem meth_eq {o : Expr} {name : Str} {apos pos : Pos} {args : List Expr} {env : Env} (hf : methodCallForm (args.length + ([] : List Keyword).length) (backTo pos (starEach args env)) (backToKw pos (keywordEach [] env)) = true) (hl : (apos.endLine == pos.line) = true) :
    eval (.Call (.Attribute o name apos) args [] pos) env = (do
      let ov ← attributeBase o name env (eval o env)
      standAt apos.atName
      let (f, first) ← holding [ov] (getMethod ov name (L2.plainOf o env))
      callWith pos f first (backTo pos (starEach args env)) []) := by
  rw [arm_eval_Call]
  have := fun ov => L2.mcall_line (o := o) (m := name) (ov := ov) (env := env) hf hl
  simp only [this]
  rfl
theorem ex_init (T : ExTxt P K mg C fI f) {x t0 : Addr} {z : Str} {tz : Tok} (M : Mod K mg base) (bk : ∀ b o, base.get? b = some o → s.heap.get? b = some o) (hx : s.heap.get? x = some (excO C t0)) (hnx : base.get? x = none) (hroom : A.depth < recursionLimit) (hz : z.length ≤ 1000)
    (hq : ∀ h' tk dx t1, ExEnd s.heap h' x C dx t1 f (.str z tz) → R (.ok (.ret .none)) { s with heap := h', toks := tk }) :
    codeAny (model P w) A (.call (.ref fI) ⟨[.ref x, .str z tz], []⟩) R s := by
  obtain ⟨oc, od, doc, pm, an, cda, ct, osl, qual, ar, body, sc, cc, ho, hcd, hBA, hA, hB, hS, ⟨cl, cld, csl, hcell⟩, ccl, cdd, vs, ccs, file, tf, hcode, hvs, hfile⟩ := T.fn
  obtain ⟨nm, q, N, bs, bm, sn, sub, ab, col, dd, k0, k1, k2, k3, k5, hC, hbm⟩ := T.cls
  have hcl : clsIn K C = some { name := nm, bases := bs, mro := .ref C :: bm, ns := N, qualname := q, hasDict := true, slotNames := sn, subclasses := sub, abstract := ab, collection := col, hasDel := false } := by unfold clsIn; rw [hC] <;> rfl
  have X : K.In s.heap := M.kin.keeps bk
  simp only [exScope, Bool.and_eq_true, Bool.not_eq_true', decide_eq_true_eq, List.all_eq_true, decide_eq_false_iff_not] at hS
  obtain ⟨⟨⟨⟨⟨⟨⟨⟨⟨hS1, hS2⟩, hS3⟩, hS4⟩, hS5⟩, hS6⟩, hS7⟩, hS8⟩, hS9⟩, hS10⟩ := hS
  unfold exArgs at hA
  split at hA
  · rename_i a b
    simp only [Bool.and_eq_true, decide_eq_true_eq] at hA
    obtain ⟨hA1, hA2⟩ := hA
    unfold exBody at hB
    split at hB
    · rename_i u p0 p1 i p2 e1 e2 es p3 p4 p5 y1 q1 y2 q2 y3 q3 q4
      simp only [Bool.and_eq_true, decide_eq_true_eq] at hB
      obtain ⟨⟨⟨⟨⟨⟨rfl, rfl⟩, rfl⟩, rfl⟩, rfl⟩, hB7⟩, hB6⟩ := hB
      obtain ⟨aa, ann, apos⟩ := a
      obtain ⟨ba, bnn, bpos⟩ := b
      dsimp only at hA1 hA2
      subst hA1
      subst hA2
      obtain ⟨hp, g, d, t, os⟩ := s
      have hxC : x ≠ C := fun z => by subst z; rw [M.kin _ _ hC] at hnx; cases hnx
      have hxL : hp.objs.size ≠ x := Nat.ne_of_gt (Heap.lt_size hx)
      have hfs : (ba == ("self" : Str)) = false := hS9
      refine ks_codeAny_call_defAt (binds := [("self", .ref x), (ba, .str z tz)]) hroom (X _ _ ho) rfl (M.nolimit.keeps bk) (codeRec_of X hcd) rfl (BindsTo.of_eq (hBA _ _)) (fun y hy => by simpa using hS8 y hy) (fun y hy => ?_) (fun h₁ hns k => ?_) hS2 hS3 hS1
      · rcases List.mem_cons.mp hy with rfl | hy
        · exact hS6
        · cases List.mem_singleton.mp hy
          exact hS7
      have X1 := X.keeps k
      obtain ⟨mb, hb1, hb2⟩ := M.blt
      have kb : ∀ b o, base.get? b = some o → h₁.get? b = some o := fun b o e => k b o (bk b o e)
      have vself : (List.reverse [(("self" : Str), Value.ref x), (ba, Value.str z tz)]).lookup ("self" : Str) = some (.ref x) := by
        have : (("self" : Str) == ba) = false := by
          have := hfs
          simp only [beq_eq_false_iff_ne, ne_eq] at this ⊢
          exact fun z => this z.symm
        simp [List.lookup, this]
      have vf : (List.reverse [(("self" : Str), Value.ref x), (ba, Value.str z tz)]).lookup ba = some (.str z tz) := by simp [List.lookup]
      show _root_.PySem.wpAt (model P w) (A.deeper (ksEnv qual sc hp.objs.size fI (.ref cda) cc)) (.func _ (ksEnv qual sc hp.objs.size fI (.ref cda) cc)) (execs _ (ksEnv qual sc hp.objs.size fI (.ref cda) cc)) _ _ _
      have hint : interactive (ksEnv qual sc hp.objs.size fI (.ref cda) cc) = false := by
        unfold interactive
        show (sc.kind == ScopeKind.module && _) = false
        rw [hS1]
        rfl
      refine ks_wpAt_execs_cons (ks_wpAt_Expr_any (ks_wpAt_MethodCall ?_ (meth_eq rfl hB7)) (hi := hint))
      refine ks_wpAt_super_base (env := ksEnv qual sc hp.objs.size fI (.ref cda) cc) hS4 hS5 (by decide) rfl (X1 _ _ ho) rfl rfl rfl (X1 _ _ hcode) rfl hvs hfile T.top ?_
      refine ks_loadName_global hS1 hS4 (loadGlobal_builtin (env := ksEnv qual sc hp.objs.size fI (.ref cda) cc) (M.glob.keeps kb) T.nosup (hb1.keeps kb) ((hb2 _ (by decide)).trans (by decide +kernel : bootBuiltins "super" = some (.type "super"))) ⟨rfl, ?_⟩)
      refine wpAny_loadName_free hS1 hS5 rfl ⟨_, X1 _ _ hcell, rfl⟩ ?_
      refine wpAny_loadName_local hS1 hS6 hns vself ?_
      refine ks_wpAny_isType_cls (X1 _ _ hC) rfl ⟨rfl, ?_⟩
      refine ks_wpAny_call_super (X1 _ _ hC) rfl (k _ _ hx) rfl (fun c e => by cases e) (looks_mroIn X1 T.self) (fun h2 eso k2 => ?_)
      have X2 := X1.keeps k2
      have hx2 := k2 _ _ (k _ _ hx)
      have I2 : InstAt h2 x (excO C t0) C none := ⟨hx2, rfl, rfl, trivial⟩
      have hup := T.up
      unfold ks_superIn at hup
      rw [hcl, Option.bind_some] at hup
      refine kxs_getMethod kxs_ValueError (l₀ := .ref C :: bm) eso (looks_opaque X2 T.opq) (fun A Q E s k q => wpAny_bind ((looks_clsIn X2 hcl) A _ E s k (wpAny_pure q))) rfl X2 hup (I2.type.andThen (looks_subIn X2 T.veC)) hxC (by decide) ?_
      have k3 : ∀ b o, h2.get? b = some o → (h2.push (kxs_mw "ValueError.__init__" x)).get? b = some o := fun b o e => Heap.get?_push_of_some _ e
      have hu : (h2.push (kxs_mw "ValueError.__init__" x)).get? h2.objs.size = some (kxs_mw "ValueError.__init__" x) := Heap.get?_push_at rfl rfl
      refine kxs_callWith (i := "ValueError.__init__") (x := x) rfl (evalArgs_plain (spliced_cons ?_))
      have hns3 := (hns.keeps k2).keeps k3
      show wpAny _ _ (eval (.JoinedStr (e1 :: e2 :: es) p3) (ksEnv qual sc hp.objs.size fI (.ref cda) cc)) _ _ _
      refine wpAny_JoinedStr ?_
      refine fparts_run (env := ksEnv qual sc hp.objs.size fI (.ref cda) cc) hS1 hS7 vf hz (by simpa using hS10) _ 0 _ _ _ hB6 (Nat.le_refl _) hns3 fun out tk ho => ⟨Nat.le_trans ho (by decide), ?_⟩
      refine spliced_nil ⟨hu, ?_⟩
      refine call_mw (k3 _ _ (X2 _ _ hC)) (k3 _ _ hx2) hu (ex_size _) fun h4 t1 k4 hx4 => ?_
      have hns4 : h4.Ns hp.objs.size (fun y => (List.reverse [(("self" : Str), Value.ref x), (ba, Value.str z tz)]).lookup y) := by
        obtain ⟨o, es, ep, e, r⟩ := hns3
        exact ⟨o, es, ep, k4 _ _ hxL e, r⟩
      have kk : ∀ b o, b ≠ x → hp.get? b = some o → h4.get? b = some o := fun b o hb e => k4 b o hb (k3 b o (k2 b o (k b o e)))
      have X4 : K.In h4 := fun b o e => kk b o (fun z => by subst z; rw [M.kin _ _ e] at hnx; cases hnx) (X b o e)
      refine wpAt_of_wpAny (wpAny_execs_cons (plainObj_wpAny_Assign_Attribute ?_))
      refine wpAny_Name (wpAny_loadName_local hS1 hS7 hns4 vf ?_) (by simpa using hS10)
      refine wpAny_Name (wpAny_loadName_local hS1 hS6 hns4 vself ?_) (by decide)
      refine set_plain X4 (ox := excO C t1) (od := none) ⟨hx4, rfl, rfl, trivial⟩ T.sa ?_
      refine exc_osa X4 hx4 hcl (show refsVE (.ref C :: bm) = true from hbm) rfl T.noN (fun h5 tk5 dx k5 dn dne hx5 hn5 => ?_)
      show wpAny _ _ (execs _ _) _ _ _
      have hL : hp.objs.size < h4.objs.size := hns4.lt
      exact wpAny_execs_nil (hq h5 tk5 dx t1 ⟨fun b o hb e => k5 b o hb (kk b o hb e), hx5, Nat.le_of_lt (Nat.lt_of_lt_of_le hL dn), dne, hn5⟩)
    · cases hB
  · cases hA
theorem ex_made (T : ExTxt P K mg C fI f) {z : Str} {tz : Tok} (M : Mod K mg base) (bk : ∀ b o, base.get? b = some o → s.heap.get? b = some o) (bsz : base.objs.size ≤ s.heap.objs.size) (hroom : A.depth + 1 < recursionLimit) (hz : z.length ≤ 1000)
    (hq : ∀ h' tk e d, ExMade s.heap h' e C d f (.str z tz) → R (.ok (.ret (.ref e))) { s with heap := h', toks := tk }) :
    codeAny (model P w) A (.call (.ref C) ⟨[.str z tz], []⟩) R s := by
  obtain ⟨nm, q, N, bs, bm, sn, sub, ab, col, dd, k0, k1, k2, k3, k5, hC, hbm⟩ := T.cls
  obtain ⟨hp, g, dr, tk, os⟩ := s
  have X : K.In hp := M.kin.keeps bk
  have k : ∀ b o, hp.get? b = some o → ((hp.push (kdv_tup [.str z tz])).push (excO C hp.objs.size)).get? b = some o := fun b o e => Heap.get?_push_of_some _ (Heap.get?_push_of_some _ e)
  have hget : ((hp.push (kdv_tup [.str z tz])).push (excO C hp.objs.size)).get? (hp.objs.size + 1) = some (excO C hp.objs.size) := by heap_get
  have hnx : base.get? (hp.objs.size + 1) = none := by
    cases e : base.get? (hp.objs.size + 1) with
    | none => rfl
    | some o =>
      have z1 : base.objs.size ≤ hp.objs.size := bsz
      have z2 : hp.objs.size + 1 < base.objs.size := Heap.lt_size e
      exact absurd (Nat.lt_of_lt_of_le z2 z1) (by omega)
  refine call_own F.excBase_ValueError (fun X => refsVE_contains X bm hbm) (X _ _ hC) (looks_findIn X T.iC) (fun self => bind_fn X self T.tI) (ex_size _) ?_
  refine ex_init (s := ⟨(hp.push (kdv_tup [.str z tz])).push (excO C hp.objs.size), g, dr, tk, os⟩) T M (fun b o e => k b o (bk b o e)) hget hnx ?_ hz fun h' tk' dx t1 ⟨k', hx, dn, dne, hns⟩ => ?_
  · show A.depth + 1 < recursionLimit
    exact hroom
  · have old : ∀ b o, hp.get? b = some o → h'.get? b = some o := fun b o e => k' b o (Nat.ne_of_lt (Nat.lt_succ_of_lt (Heap.lt_size e))) (k b o e)
    have zz : hp.objs.size + 1 + 1 ≤ dx := by
      first
        | (simpa only [Heap.size_push] using dn)
        | exact dn
        | (have q := dn; rw [Heap.size_push, Heap.size_push] at q; exact q)
    exact ⟨rfl, hq h' tk' (hp.objs.size + 1) dx ⟨old, Nat.le_succ _, ⟨_, _, hx, rfl, rfl, rfl, rfl⟩, Nat.le_trans (Nat.le_trans (Nat.le_succ _) (Nat.le_succ _)) zz, dne, hns⟩⟩
end
end PI
namespace PI
open PySem PySem.Spec PyProof.Rows L2
theorem mk_ok {P : Program} {K : PySem.W.Frag} {mg : Str → Option Value} {C fI : Addr} {f x : Str} (T : ExTxt P K mg C fI f) (hm : mg x = some (.ref C)) (hxd : (x == ("__debug__" : Str)) = false) : MkOk P K mg C f x := by
  intro X lv a ta p pos hP hK hmg hr hg hs ha pins s σ H Q I h
  subst hP; subst hK; subst hmg
  have he := star_cons hs [] X.env
  refine wpAny_Call_Name_kw (ld_glob I hg hm ?_ hxd)
  refine PySem.W.callWith_K (h₀ := X.base) I.ok.mod.kin T.kC (thn (ha.run pos pins s σ H _ I h) fun us s1 hh => ?_) he rfl
  obtain ⟨vs, H1, I1, r1, v, ev, hsm, q1⟩ := hh
  subst ev
  refine ⟨I1.kIn, ?_⟩
  cases r1 with
  | cons rv rn =>
    rename_i v' us'
    cases rn
    cases v with
    | str z =>
      obtain ⟨tz, rfl⟩ := rv
      show wpAny _ _ (call (.ref C) [.str z tz]) _ _ _
      have bk := I1.bk
      have bsz : X.base.objs.size ≤ s1.heap.objs.size := by
        obtain ⟨m, hn, _⟩ := I1.loc
        exact Nat.le_trans I1.ok.bsz (Nat.le_trans I1.ok.above (Nat.le_of_lt hn.lt))
      obtain ⟨hp, g, dr, tk, os⟩ := s1
      refine wpAny_call (ex_made T I1.ok.mod bk bsz (by have := hr.dp; omega) hsm fun h' tk' e d M => ?_)
      show MkP X pins σ Q (.ref e) ⟨h', g, dr, tk', os⟩
      obtain ⟨oe, fv, hoe, hc, hd, hdat, h1⟩ := M.obj
      have hns := M.ns
      obtain ⟨G', g1, g2⟩ := restrict h' fun b => decide (b ≠ e)
      have gk : ∀ b, b ≠ e → G'.get? b = h'.get? b := fun b hb => g1 b (decide_eq_true hb)
      have ge : G'.get? e = none := g2 e (by simp)
      have old : ∀ b o, hp.get? b = some o → G'.get? b = some o := fun b o q => (gk b (Nat.ne_of_lt (Nat.lt_of_lt_of_le (Heap.lt_size q) M.new))).trans (M.keep b o q)
      have ob : ObjOk X.prog X.w (upd H1 d (.xd [(f, V.str z)])) G' d (.xd [(f, V.str z)]) :=
        ⟨_, hns.at (fun o q => (gk d M.dne).trans q), fun y => relO_one (v := V.str z) ⟨tz, rfl⟩ y⟩
      have J : Inv X pins σ (upd H1 d (.xd [(f, V.str z)])) ⟨G', g, dr, tk', os⟩ := I1.laid (t' := tk') old M.dbig ob
      refine ⟨e, oe, fv, ⟨G', g, dr, tk', os⟩, _, .ref C, some d, rfl, J, fun b o q => ?_, ge, hoe, ⟨hc, hd⟩, hdat, h1, ?_, rfl, I1.bare, raises_own T.exC T.tyC, q1 d (I1.hok.fresh M.dbig)⟩
      · by_cases hb : b = e
        · have q' : G'.get? b = some o := q
          rw [hb, ge] at q'; cases q'
        · exact (gk b hb).symm.trans q
      · rw [upd_ne (Ne.symm M.dne)]
        exact I1.hok.fresh M.new
    | _ => exact hsm.elim
theorem exm_mk {K : PySem.W.Frag} {C H : Addr} {b : Bool} (h1 : PySem.W.subIn K (.ref H) (.type "BaseException") = some true) (h2 : PySem.W.isClsIn K H = true) (h3 : PySem.W.typeIn K (.ref H) = some (.type "type")) (h4 : PySem.W.subIn K (.ref C) (.ref H) = some b) :
    PySem.W.exmOne K (.ref C) (.ref H) = some b := by
  have e1 : (PySem.W.subIn K (.ref H) (.type "BaseException") == some true) = true := by rw [h1] <;> rfl
  have e2 : ((PySem.W.clsIn K H).isSome && PySem.W.typeIn K (.ref H) == some (.type "type")) = true := by
    have h2' : (PySem.W.clsIn K H).isSome = true := h2
    rw [h2', h3] <;> rfl
  show (if (PySem.W.subIn K (.ref H) (.type "BaseException") == some true) = true then (if ((PySem.W.clsIn K H).isSome && PySem.W.typeIn K (.ref H) == some (.type "type")) = true then PySem.W.subIn K (.ref C) (.ref H) else none) else none) = some b
  rw [if_pos e1, if_pos e2]
  exact h4
end PI

namespace PI
open PySem L2
/-! ### running the interpreter by rewriting -/
section
variable {α β : Type} {Φ : Fns} {s : S}
@[simp] theorem bind_ok (a : α) (s : S) (k : α → S → Res β) : (Res.ok a s).bind k = k a s := by rfl
@[simp] theorem bind_exc (c : Nat) (d : D) (s : S) (k : α → S → Res β) : (Res.exc c d s : Res α).bind k = .exc c d s := by rfl
@[simp] theorem bind_bad (k : α → S → Res β) : (Res.bad : Res α).bind k = .bad := by rfl
@[simp] theorem run_ok (a : α) (s : S) (k : α → S → R) : (Res.ok a s).run k = k a s := by rfl
@[simp] theorem run_exc (c : Nat) (d : D) (s : S) (k : α → S → R) : (Res.exc c d s : Res α).run k = .exc c d s := by rfl
@[simp] theorem run_bad (k : α → S → R) : (Res.bad : Res α).run k = .bad := by rfl
@[simp] theorem toP_val (d : D) (s : S) : toP (.ok (.val d) s) = .ok d s := by rfl
@[simp] theorem toP_own (d : List D) (s : S) : toP (.ok (.own d) s) = .ok (.lst d) s := by rfl
@[simp] theorem toP_loc (i : Nat) (d : List D) (s : S) : toP (.ok (.loc i d) s) = .ok (.lst d) s := by rfl
@[simp] theorem toP_exc (c : Nat) (d : D) (s : S) : toP (.exc c d s) = .exc c d s := by rfl
@[simp] theorem toV_val (d : D) (s : S) : toV (.ok (.val d) s) = .ok d s := by rfl
@[simp] theorem toV_own (d : List D) (s : S) : toV (.ok (.own d) s) = .ok (.lst d) s := by rfl
@[simp] theorem toV_loc (i : Nat) (d : List D) (s : S) : toV (.ok (.loc i d) s) = .ok (.lst d) { s with t := s.t.set i (some (.val (.lst d))) } := by rfl
@[simp] theorem toV_exc (c : Nat) (d : D) (s : S) : toV (.exc c d s) = .exc c d s := by rfl
@[simp] theorem toB_ok (b : Bool) (s : S) : toB (.ok (.bl b) s) = .ok b s := by rfl
@[simp] theorem toI_ok (b : Int) (s : S) : toI (.ok (.int b) s) = .ok b s := by rfl
@[simp] theorem toT_bl (b : Bool) (s : S) : toT (.ok (.bl b) s) = .ok b s := by rfl
@[simp] theorem toT_int (b : Int) (s : S) : toT (.ok (.int b) s) = .ok (b != 0) s := by rfl
@[simp] theorem toT_lst (b : List D) (s : S) : toT (.ok (.lst b) s) = .ok (!b.isEmpty) s := by rfl
@[simp] theorem toL_lst (b : List D) (s : S) : toL (.ok (.lst b) s) = .ok b s := by rfl
@[simp] theorem toL_tup (b : List D) (s : S) : toL (.ok (.tup b) s) = .ok b s := by rfl
@[simp] theorem toLL_lst (b : List D) (s : S) : toLL (.ok (.lst b) s) = .ok b s := by rfl
@[simp] theorem toB_exc (c : Nat) (d : D) (s : S) : toB (.exc c d s) = .exc c d s := by rfl
@[simp] theorem toI_exc (c : Nat) (d : D) (s : S) : toI (.exc c d s) = .exc c d s := by rfl
@[simp] theorem toT_exc (c : Nat) (d : D) (s : S) : toT (.exc c d s) = .exc c d s := by rfl
@[simp] theorem toL_exc (c : Nat) (d : D) (s : S) : toL (.exc c d s) = .exc c d s := by rfl
@[simp] theorem ofO_some (a : α) (s : S) : ofO (some a) s = .ok a s := by rfl
@[simp] theorem slGet_mk (t : List (Option Sl)) (h : List (List D)) (i : Nat) : slGet ⟨t, h⟩ i = match t[i]? with
  | some (some (.val d)) => .ok (.val d) ⟨t, h⟩
  | some (some (.own ds)) => .ok (.loc i ds) ⟨t, h⟩
  | some (some (.dct kvs)) => .ok (.ldc i kvs) ⟨t, h⟩
  | some (some (.ldk kvs)) => .ok (.ldc i kvs) ⟨t, h⟩
  | _ => .bad := by rfl
@[simp] theorem ev_var (i : Nat) : ev Φ (.var i) s = slGet s i := by rw [ev]
@[simp] theorem ev_cst (d : D) : ev Φ (.cst d) s = .ok (.val d) s := by rw [ev]
@[simp] theorem ev_glb (x : Str) (n : Int) : ev Φ (.glb x n) s = .ok (.val (.int n)) s := by rw [ev]
@[simp] theorem ev_tup (es : MEs) : ev Φ (.tup es) s = (evs Φ false es s).bind fun ds s => .ok (.val (.tup ds)) s := by rw [ev]
@[simp] theorem ev_lst (es : MEs) : ev Φ (.lst es) s = (evs Φ false es s).bind fun ds s => .ok (.own ds) s := by rw [ev]
noncomputable def kBin (Φ : Fns) (o : BOp) (b : ME) (x : D) (s : S) : Res RV := (toP (ev Φ b s)).bind fun y s => ofO (binD o x y) s
@[simp] theorem kBin_at (o : BOp) (b : ME) (x : D) (s : S) : kBin Φ o b x s = (toP (ev Φ b s)).bind fun y s => ofO (binD o x y) s := by rfl
@[simp] theorem ev_bin (o : BOp) (a b : ME) : ev Φ (.bin o a b) s = (toP (ev Φ a s)).bind (kBin Φ o b) := by rw [ev] <;> rfl
@[simp] theorem ev_neg (a : ME) : ev Φ (.neg a) s = (toI (toP (ev Φ a s))).bind fun i s => .ok (.val (.int (-i))) s := by rw [ev]
@[simp] theorem ev_not (a : ME) : ev Φ (.not a) s = (toB (toP (ev Φ a s))).bind fun b s => .ok (.val (.bl (!b))) s := by rw [ev]
@[simp] theorem ev_bop (c : Bool) (es : MEs) : ev Φ (.bop c es) s = (evB Φ c es s).bind fun b s => .ok (.val (.bl b)) s := by rw [ev]
noncomputable def kCmp (Φ : Fns) (cs : MCs) (x : D) (s : S) : Res RV := (evC Φ x cs s).bind fun b s => .ok (.val (.bl b)) s
@[simp] theorem kCmp_at (cs : MCs) (x : D) (s : S) : kCmp Φ cs x s = (evC Φ x cs s).bind fun b s => .ok (.val (.bl b)) s := by rfl
@[simp] theorem ev_cmp (a : ME) (cs : MCs) : ev Φ (.cmp a cs) s = (toP (ev Φ a s)).bind (kCmp Φ cs) := by rw [ev] <;> rfl
/-- the result of a call -/
def backF : FR → S → Res RV
  | .ok (.val d) h, s => .ok (.val d) { s with h := h }
  | .ok (.own l) h, s => .ok (.own l) { s with h := h }
  | .ok (.dct l) h, s => .ok (.dct l) { s with h := h }
  | .exc c d h, s => .exc c d { s with h := h }
  | _, _ => .bad
@[simp] theorem backF_val (d : D) (h : List (List D)) (s : S) : backF (.ok (.val d) h) s = .ok (.val d) { s with h := h } := by rfl
@[simp] theorem backF_own (d : List D) (h : List (List D)) (s : S) : backF (.ok (.own d) h) s = .ok (.own d) { s with h := h } := by rfl
@[simp] theorem backF_dct (d : List (Key × D)) (h : List (List D)) (s : S) : backF (.ok (.dct d) h) s = .ok (.dct d) { s with h := h } := by rfl
@[simp] theorem backF_exc (c : Nat) (d : D) (h : List (List D)) (s : S) : backF (.exc c d h) s = .exc c d { s with h := h } := by rfl
@[simp] theorem ev_call (f : Str) (es : MEs) : ev Φ (.call f es) s = (evs Φ false es s).bind fun ds s => backF (Φ f ds s.h) s := by
  rw [ev]
  congr 1
  funext ds s
  cases Φ f ds s.h with
  | ok r h => cases r <;> rfl
  | exc c d h => rfl
  | bad => rfl
@[simp] theorem ev_blt (b : Bl) (es : MEs) : ev Φ (.blt b es) s = (evs Φ true es s).bind fun ds s => ofO (bltD b ds) s := by rw [ev]
@[simp] theorem ev_isi (a : ME) (t : Ty) : ev Φ (.isi a t) s = (toP (ev Φ a s)).bind fun x s => ofO ((isTy t x).map fun b => .val (.bl b)) s := by
  rw [ev]
  congr 1
  funext x s
  cases isTy t x <;> rfl
noncomputable def kIdx (Φ : Fns) (b : ME) (x : D) (s : S) : Res RV := (toP (ev Φ b s)).bind fun y s => ofO ((idxD s x y).map .val) s
@[simp] theorem kIdx_at (b : ME) (x : D) (s : S) : kIdx Φ b x s = (toP (ev Φ b s)).bind fun y s => ofO ((idxD s x y).map .val) s := by rfl
@[simp] theorem ev_idx (a b : ME) : ev Φ (.idx a b) s = (toP (ev Φ a s)).bind (kIdx Φ b) := by
  rw [ev]
  congr 1
  funext x s
  rw [kIdx_at]
  congr 1
  funext y s
  cases idxD s x y <;> rfl
def cutR (x : D) (l u : Option Int) (s : S) : Res RV := match x with
  | .tup ds => .ok (.val (.tup (cutD ds l u))) s
  | .lst ds => .ok (.own (cutD ds l u)) s
  | _ => .bad
@[simp] theorem cutR_tup (ds : List D) (l u : Option Int) (s : S) : cutR (.tup ds) l u s = .ok (.val (.tup (cutD ds l u))) s := by rfl
@[simp] theorem cutR_lst (ds : List D) (l u : Option Int) (s : S) : cutR (.lst ds) l u s = .ok (.own (cutD ds l u)) s := by rfl
noncomputable def kSlc (Φ : Fns) (lo hi : MO) (x : D) (s : S) : Res RV := (evO Φ lo s).bind fun l s => (evO Φ hi s).bind fun u s => cutR x l u s
@[simp] theorem kSlc_at (lo hi : MO) (x : D) (s : S) : kSlc Φ lo hi x s = (evO Φ lo s).bind fun l s => (evO Φ hi s).bind fun u s => cutR x l u s := by rfl
@[simp] theorem ev_slc (a : ME) (lo hi : MO) : ev Φ (.slc a lo hi) s = (toP (ev Φ a s)).bind (kSlc Φ lo hi) := by
  rw [ev]
  rfl
noncomputable def revR (x : D) (s : S) : Res RV := match x with
  | .tup ds => .ok (.val (.tup ds.reverse)) s
  | .lst ds => .ok (.own ds.reverse) s
  | _ => .bad
@[simp] theorem revR_tup (ds : List D) (s : S) : revR (.tup ds) s = .ok (.val (.tup ds.reverse)) s := by rfl
@[simp] theorem revR_lst (ds : List D) (s : S) : revR (.lst ds) s = .ok (.own ds.reverse) s := by rfl
@[simp] theorem ev_rev (a : ME) : ev Φ (.rev a) s = (toP (ev Φ a s)).bind revR := by
  rw [ev]
  rfl
/-! dicts, ranges as lists -/
@[simp] theorem ev_dct0 : ev Φ .dct0 s = .ok (.dct []) s := by rw [ev]
@[simp] theorem ev_dct1 (q : Key) (d : D) : ev Φ (.dct1 q d) s = .ok (.dct [(q, d)]) s := by rw [ev]
def dinR (n : Bool) (q : D) (r : RV) (s : S) : Res RV := match keyOf q, dctAt r s with
  | some q, some kvs => .ok (.val (.bl (if n then !(kget kvs q).isSome else (kget kvs q).isSome))) s
  | _, _ => .bad
noncomputable def kDin (Φ : Fns) (n : Bool) (x : ME) (q : D) (s : S) : Res RV := (ev Φ x s).bind (dinR n q)
@[simp] theorem kDin_at (n : Bool) (x : ME) (q : D) (s : S) : kDin Φ n x q s = (ev Φ x s).bind (dinR n q) := by rfl
@[simp] theorem ev_din (n : Bool) (a x : ME) : ev Φ (.din n a x) s = (toP (ev Φ a s)).bind (kDin Φ n x) := by rw [ev] <;> rfl
def dixR (r : RV) (q : D) (s : S) : Res RV := match keyOf q, dctAt r s with
  | some q, some kvs => (match kget kvs q with | some d => .ok (.val d) s | none => .bad)
  | _, _ => .bad
noncomputable def kDix (Φ : Fns) (k : ME) (r : RV) (s : S) : Res RV := (toP (ev Φ k s)).bind (dixR r)
@[simp] theorem kDix_at (k : ME) (r : RV) (s : S) : kDix Φ k r s = (toP (ev Φ k s)).bind (dixR r) := by rfl
@[simp] theorem ev_dix (x k : ME) : ev Φ (.dix x k) s = (ev Φ x s).bind (kDix Φ k) := by rw [ev] <;> rfl
def dgtR (r : RV) (q d : D) (s : S) : Res RV := match keyOf q, dctAt r s with
  | some q, some kvs => .ok (.val ((kget kvs q).getD d)) s
  | _, _ => .bad
noncomputable def kDgt2 (Φ : Fns) (e : ME) (r : RV) (q : D) (s : S) : Res RV := (toV (ev Φ e s)).bind (dgtR r q)
@[simp] theorem kDgt2_at (e : ME) (r : RV) (q : D) (s : S) : kDgt2 Φ e r q s = (toV (ev Φ e s)).bind (dgtR r q) := by rfl
noncomputable def kDgt (Φ : Fns) (k e : ME) (r : RV) (s : S) : Res RV := if (dctAt r s).isSome then (toP (ev Φ k s)).bind (kDgt2 Φ e r) else .bad
@[simp] theorem kDgt_at (k e : ME) (r : RV) (s : S) : kDgt Φ k e r s = if (dctAt r s).isSome then (toP (ev Φ k s)).bind (kDgt2 Φ e r) else .bad := by rfl
@[simp] theorem ev_dgt (x k e : ME) : ev Φ (.dgt x k e) s = (ev Φ x s).bind (kDgt Φ k e) := by
  rw [ev]
  congr 1
  funext r s
  unfold kDgt
  cases dctAt r s <;> rfl
@[simp] theorem dctAt_ldc (t : List (Option Sl)) (h : List (List D)) (i : Nat) (l : List (Key × D)) : dctAt (.ldc i l) ⟨t, h⟩ = match t[i]? with
  | some (some (.dct kvs)) => some kvs
  | some (some (.ldk kvs)) => some kvs
  | _ => none := by rfl
@[simp] theorem keyOf_int (i : Int) : keyOf (.int i) = some (.inl i) := by rfl
@[simp] theorem keyOf_str (i : Str) : keyOf (.str i) = some (.inr i) := by rfl
theorem dinR_of {n : Bool} {q : D} {r : RV} {s : S} {k : Key} {kvs : List (Key × D)} (h1 : keyOf q = some k) (h2 : dctAt r s = some kvs) : dinR n q r s = .ok (.val (.bl (if n then !(kget kvs k).isSome else (kget kvs k).isSome))) s := by
  unfold dinR; rw [h1, h2]
theorem dixR_of {q : D} {r : RV} {s : S} {k : Key} {kvs : List (Key × D)} {d : D} (h1 : keyOf q = some k) (h2 : dctAt r s = some kvs) (h3 : kget kvs k = some d) : dixR r q s = .ok (.val d) s := by
  unfold dixR; rw [h1, h2]; dsimp only; rw [h3]
theorem dgtR_of {q e : D} {r : RV} {s : S} {k : Key} {kvs : List (Key × D)} (h1 : keyOf q = some k) (h2 : dctAt r s = some kvs) : dgtR r q e s = .ok (.val ((kget kvs k).getD e)) s := by
  unfold dgtR; rw [h1, h2]
@[simp] theorem dinR_int (n : Bool) (i : Int) (j : Nat) (l : List (Key × D)) (t : List (Option Sl)) (h : List (List D)) : dinR n (.int i) (.ldc j l) ⟨t, h⟩ = match dctAt (.ldc j l) ⟨t, h⟩ with
  | some kvs => .ok (.val (.bl (if n then !(kget kvs (.inl i)).isSome else (kget kvs (.inl i)).isSome))) ⟨t, h⟩
  | none => .bad := by unfold dinR; rw [keyOf_int]; cases dctAt (.ldc j l) ⟨t, h⟩ <;> rfl
@[simp] theorem dixR_int (i : Int) (j : Nat) (l : List (Key × D)) (t : List (Option Sl)) (h : List (List D)) : dixR (.ldc j l) (.int i) ⟨t, h⟩ = match dctAt (.ldc j l) ⟨t, h⟩ with
  | some kvs => (match kget kvs (.inl i) with | some d => .ok (.val d) ⟨t, h⟩ | none => .bad)
  | none => .bad := by unfold dixR; rw [keyOf_int]; cases dctAt (.ldc j l) ⟨t, h⟩ <;> rfl
@[simp] theorem dgtR_int (i : Int) (e : D) (j : Nat) (l : List (Key × D)) (t : List (Option Sl)) (h : List (List D)) : dgtR (.ldc j l) (.int i) e ⟨t, h⟩ = match dctAt (.ldc j l) ⟨t, h⟩ with
  | some kvs => .ok (.val ((kget kvs (.inl i)).getD e)) ⟨t, h⟩
  | none => .bad := by unfold dgtR; rw [keyOf_int]; cases dctAt (.ldc j l) ⟨t, h⟩ <;> rfl
def ssetR (x : D) (s : S) : Res RV := match x with
  | .lst ds => (match intsOf ds with | some ns => if ns.length < 60 then .ok (.own ((sortD (once ns)).map D.int)) s else .bad | none => .bad)
  | _ => .bad
theorem ssetR_of {ds : List D} {ns : List Int} {s : S} (h : intsOf ds = some ns) (hl : ns.length < 60) : ssetR (.lst ds) s = .ok (.own ((sortD (once ns)).map D.int)) s := by
  unfold ssetR; dsimp only; rw [h]; dsimp only; rw [if_pos hl]
@[simp] theorem ev_sset (a : ME) : ev Φ (.sset a) s = (toP (ev Φ a s)).bind ssetR := by rw [ev] <;> rfl
@[simp] theorem ev_lrng (a : ME) : ev Φ (.lrng a) s = (toI (toP (ev Φ a s))).bind fun i s => if decide (i ≤ 1000000) && decide (-1000000 ≤ i) then .ok (.own (rangeD 0 i.toNat)) s else .bad := by rw [ev]
@[simp] theorem ev_trng (a b : ME) : ev Φ (.trng a b) s = (toI (toP (ev Φ a s))).bind fun i s => (toI (toP (ev Φ b s))).bind fun j s => if (decide (i ≤ 1000000) && decide (-1000000 ≤ i)) && (decide (j ≤ 1000000) && decide (-1000000 ≤ j)) then .ok (.val (.tup (rangeD i (j - i).toNat))) s else .bad := by rw [ev]
/-- a comprehension's turn -/
noncomputable def turnL (Φ : Fns) (tg : MT) (cond : MO) (elt : ME) : D → S → Res (Option D) := fun d s1 => match bindT tg d { s1 with t := wipeT s1.t tg.ids } with
  | none => .bad
  | some s2 => (evCond Φ cond s2).bind fun b s3 => if b then (toV (ev Φ elt s3)).bind fun e s4 => .ok (some e) s4 else .ok none s3
noncomputable def lcR (Φ : Fns) (elt : ME) (tg : MT) (cond : MO) (items : List D) (s : S) : Res RV := match lcGo (turnL Φ tg cond elt) [] items s with
  | .ok ds s1 => .ok (.own ds) { s1 with t := backT s1.t s.t tg.ids }
  | _ => .bad
@[simp] theorem ev_lc (elt : ME) (tg : MT) (it : MI) (cond : MO) : ev Φ (.lc elt tg it cond) s = (evI Φ it s).bind fun items s => lcR Φ elt tg cond items s := by
  rw [ev]
  rfl
/-- .. of the first of two clauses -/
noncomputable def turnL2 (Φ : Fns) (ids : List Nat) (tg : MT) (cond : MO) (it1 : MI) : D → S → Res (Option (List D)) := fun d s1 => match bindT tg d { s1 with t := wipeT s1.t ids } with
  | none => .bad
  | some s2 => (evCond Φ cond s2).bind fun b s3 => if b then (evI Φ it1 s3).bind fun items s4 => .ok (some items) s4 else .ok none s3
noncomputable def lcR2 (Φ : Fns) (elt : ME) (tg : MT) (cond : MO) (tg1 : MT) (it1 : MI) (cond1 : MO) (items : List D) (s : S) : Res RV := match lcGo2 (turnL2 Φ (tg.ids ++ tg1.ids) tg cond it1) (turnL Φ tg1 cond1 elt) [] items s with
  | .ok ds s1 => .ok (.own ds) { s1 with t := backT s1.t s.t (tg.ids ++ tg1.ids) }
  | _ => .bad
@[simp] theorem ev_lc2 (elt : ME) (tg : MT) (it : MI) (cond : MO) (tg1 : MT) (it1 : MI) (cond1 : MO) : ev Φ (.lc2 elt tg it cond tg1 it1 cond1) s = (evI Φ it s).bind fun items s => lcR2 Φ elt tg cond tg1 it1 cond1 items s := by
  rw [ev]
  rfl
@[simp] theorem ev_fld (i : Nat) (t : List (Option Sl)) (h : List (List D)) : ev Φ (.fld i) ⟨t, h⟩ = match t[i]? with
  | some (some (.exc _ d)) => .ok (.val d) ⟨t, h⟩
  | _ => .bad := by rw [ev] <;> rfl
@[simp] theorem evs_nil (pk : Bool) : evs Φ pk .nil s = .ok [] s := by rw [evs]
noncomputable def kEvs (Φ : Fns) (pk : Bool) (es : MEs) (d : D) (s : S) : Res (List D) := (evs Φ pk es s).bind fun ds s => .ok (d :: ds) s
@[simp] theorem kEvs_at (pk : Bool) (es : MEs) (d : D) (s : S) : kEvs Φ pk es d s = (evs Φ pk es s).bind fun ds s => .ok (d :: ds) s := by rfl
@[simp] theorem evs_consT (e : ME) (es : MEs) : evs Φ true (.cons e es) s = (toP (ev Φ e s)).bind (kEvs Φ true es) := by rw [evs]; rfl
@[simp] theorem evs_consF (e : ME) (es : MEs) : evs Φ false (.cons e es) s = (toV (ev Φ e s)).bind (kEvs Φ false es) := by rw [evs]; rfl
@[simp] theorem evB_one (c : Bool) (e : ME) : evB Φ c (.cons e .nil) s = toB (toP (ev Φ e s)) := by
  rw [evB]
  cases toB (toP (ev Φ e s)) <;> rfl
noncomputable def kEvB (Φ : Fns) (c : Bool) (es : MEs) (b : Bool) (s : S) : Res Bool := if b = c then evB Φ c es s else .ok b s
@[simp] theorem kEvB_tt (es : MEs) (s : S) : kEvB Φ true es true s = evB Φ true es s := by rfl
@[simp] theorem kEvB_tf (es : MEs) (s : S) : kEvB Φ true es false s = .ok false s := by rfl
@[simp] theorem kEvB_ff (es : MEs) (s : S) : kEvB Φ false es false s = evB Φ false es s := by rfl
@[simp] theorem kEvB_ft (es : MEs) (s : S) : kEvB Φ false es true s = .ok true s := by rfl
@[simp] theorem evB_two (c : Bool) (e e2 : ME) (es : MEs) : evB Φ c (.cons e (.cons e2 es)) s = (toB (toP (ev Φ e s))).bind (kEvB Φ c (.cons e2 es)) := by rw [evB] <;> rfl
@[simp] theorem evC_one (x : D) (o : COp) (e : ME) : evC Φ x (.cons o e .nil) s = (toP (ev Φ e s)).bind fun y s => ofO (cmpD o x y) s := by
  rw [evC]
  congr 1
  funext y s
  cases cmpD o x y <;> rfl
noncomputable def kEvC (Φ : Fns) (y : D) (r : MCs) (b : Bool) (s : S) : Res Bool := if b then evC Φ y r s else .ok false s
@[simp] theorem kEvC_t (y : D) (r : MCs) (s : S) : kEvC Φ y r true s = evC Φ y r s := by rfl
@[simp] theorem kEvC_f (y : D) (r : MCs) (s : S) : kEvC Φ y r false s = .ok false s := by rfl
@[simp] theorem evC_two (x : D) (o o2 : COp) (e e2 : ME) (r : MCs) : evC Φ x (.cons o e (.cons o2 e2 r)) s = (toP (ev Φ e s)).bind fun y s => (ofO (cmpD o x y) s).bind (kEvC Φ y (.cons o2 e2 r)) := by
  rw [evC]
  congr 1
  funext y s
  cases cmpD o x y <;> rfl
@[simp] theorem evO_none : evO Φ .none s = .ok none s := by rw [evO]
@[simp] theorem evO_some (e : ME) : evO Φ (.some e) s = (toI (toP (ev Φ e s))).bind fun i s => .ok (some i) s := by rw [evO]
@[simp] theorem evCond_none : evCond Φ .none s = .ok true s := by rw [evCond]
@[simp] theorem evCond_some (e : ME) : evCond Φ (.some e) s = toT (toP (ev Φ e s)) := by rw [evCond]
@[simp] theorem evI_seq (e : ME) : evI Φ (.seq e) s = toL (toV (ev Φ e s)) := by rw [evI]
@[simp] theorem evI_rng1 (e : ME) : evI Φ (.rng1 e) s = (toI (toP (ev Φ e s))).bind fun i s => if smallI i then .ok (rangeD 0 i.toNat) s else .bad := by rw [evI]
@[simp] theorem evI_rng2 (a b : ME) : evI Φ (.rng2 a b) s = (toI (toP (ev Φ a s))).bind fun i s => (toI (toP (ev Φ b s))).bind fun j s => if smallI i && smallI j then .ok (rangeD i (j - i).toNat) s else .bad := by rw [evI]
@[simp] theorem evI_rng3 (a b c : ME) : evI Φ (.rng3 a b c) s = (toI (toP (ev Φ a s))).bind fun i s => (toI (toP (ev Φ b s))).bind fun j s => (toI (toP (ev Φ c s))).bind fun k s =>
      if decide (k ≠ 0) && decide (k.natAbs < 1073741824) && Builtin.Range.small i j k then .ok (rangeC i k (turnsC i j k)) s else .bad := by rw [evI]
@[simp] theorem evI_enum (e : ME) : evI Φ (.enum e) s = (toLL (toV (ev Φ e s))).bind fun ds s => .ok (enumD 0 ds) s := by rw [evI]
@[simp] theorem evI_zip (a b : ME) : evI Φ (.zip a b) s = (toV (ev Φ a s)).bind fun x s => (toV (ev Φ b s)).bind fun y s => zipR x y s := by rw [evI]
@[simp] theorem evI_revd (e : ME) : evI Φ (.revd e) s = (toL (toV (ev Φ e s))).bind fun ds s => .ok ds.reverse s := by rw [evI]
@[simp] theorem zipR_tup (a b : List D) (s : S) : zipR (.tup a) (.tup b) s = .ok (zipD a b) s := by rfl
@[simp] theorem zipR_lst (a b : List D) (s : S) : zipR (.lst a) (.lst b) s = .ok (zipD a b) s := by rfl
/-! statements -/
@[simp] theorem putR_val (i : Nat) (d : D) (s : S) : putR i (.val d) s = .next { s with t := s.t.set i (some (.val d)) } := by rfl
@[simp] theorem putR_own (i : Nat) (d : List D) (s : S) : putR i (.own d) s = .next { s with t := s.t.set i (some (.own d)) } := by rfl
@[simp] theorem putR_dct (i : Nat) (d : List (Key × D)) (s : S) : putR i (.dct d) s = .next { s with t := s.t.set i (some (.dct d)) } := by rfl
@[simp] theorem putR_loc (i j : Nat) (d : List D) (s : S) : putR i (.loc j d) s = .next { s with t := (s.t.set j (some (.val (.lst d)))).set i (some (.val (.lst d))) } := by rfl
@[simp] theorem ex_set (i : Nat) (e : ME) : ex Φ (.set (.name i) e) s = (ev Φ e s).run fun r s => putR i r s := by rw [ex]
/-- names of a tuple -/
def bindR (is : List Nat) (d : D) (s : S) : R := match bindT (.tup is) d s with | some s => .next s | none => .bad
@[simp] theorem bindR_tup (is : List Nat) (ds : List D) (t t' : List (Option Sl)) (h : List (List D)) (e : setAll t is ds = some t') : bindR is (.tup ds) ⟨t, h⟩ = .next ⟨t', h⟩ := by
  unfold bindR bindT
  dsimp only
  rw [e]
  rfl
@[simp] theorem ex_setT (is : List Nat) (e : ME) : ex Φ (.set (.tup is) e) s = (toV (ev Φ e s)).run fun d s => bindR is d s := by rw [ex]; rfl
noncomputable def kPar (Φ : Fns) (i j : Nat) (b : ME) (x : D) (s : S) : R := (toV (ev Φ b s)).run fun y s => .next { s with t := (s.t.set i (some (.val x))).set j (some (.val y)) }
@[simp] theorem kPar_at (i j : Nat) (b : ME) (x : D) (s : S) : kPar Φ i j b x s = (toV (ev Φ b s)).run fun y s => .next { s with t := (s.t.set i (some (.val x))).set j (some (.val y)) } := by rfl
@[simp] theorem ex_par (i j : Nat) (a b : ME) : ex Φ (.par i j a b) s = (toV (ev Φ a s)).run (kPar Φ i j b) := by rw [ex] <;> rfl
def augR (i : Nat) (o : Option Int) (s : S) : R := match o with | some z => .next { s with t := s.t.set i (some (.val (.int z))) } | none => .bad
@[simp] theorem augR_some (i : Nat) (z : Int) (s : S) : augR i (some z) s = .next { s with t := s.t.set i (some (.val (.int z))) } := by rfl
noncomputable def kAug (Φ : Fns) (i : Nat) (o : BOp) (e : ME) (x : D) (s : S) : R := (toP (ev Φ e s)).run fun y s => augR i (augD o x y) s
@[simp] theorem kAug_at (i : Nat) (o : BOp) (e : ME) (x : D) (s : S) : kAug Φ i o e x s = (toP (ev Φ e s)).run fun y s => augR i (augD o x y) s := by rfl
@[simp] theorem aug_add (i j : Int) : augD .add (.int i) (.int j) = some (i + j) := by rfl
@[simp] theorem aug_sub (i j : Int) : augD .sub (.int i) (.int j) = some (i - j) := by rfl
@[simp] theorem ex_aug (i : Nat) (o : BOp) (e : ME) : ex Φ (.aug i o e) s = (toP (slGet s i)).run (kAug Φ i o e) := by rw [ex]; rfl
noncomputable def kSeti2 (Φ : Fns) (ix : ME) (d : D) (r : RV) (s : S) : R := (toP (ev Φ ix s)).run fun k s => putAt r k d s
@[simp] theorem kSeti2_at (ix : ME) (d : D) (r : RV) (s : S) : kSeti2 Φ ix d r s = (toP (ev Φ ix s)).run fun k s => putAt r k d s := by rfl
noncomputable def kSeti (Φ : Fns) (x ix : ME) (d : D) (s : S) : R := (ev Φ x s).run (kSeti2 Φ ix d)
@[simp] theorem kSeti_at (x ix : ME) (d : D) (s : S) : kSeti Φ x ix d s = (ev Φ x s).run (kSeti2 Φ ix d) := by rfl
@[simp] theorem ex_seti (x ix e : ME) : ex Φ (.seti x ix e) s = (toV (ev Φ e s)).run (kSeti Φ x ix) := by rw [ex] <;> rfl
def augA (r : RV) (k : D) (s : S) : Option Int → R
  | some z => putAt r k (.int z) s
  | none => .bad
@[simp] theorem augA_some (r : RV) (k : D) (s : S) (z : Int) : augA r k s (some z) = putAt r k (.int z) s := by rfl
noncomputable def kAugi2 (Φ : Fns) (o : BOp) (e : ME) (r : RV) (k : D) (s : S) : Option D → R
  | some a => (toP (ev Φ e s)).run fun y s => augA r k s (augD o a y)
  | none => .bad
@[simp] theorem kAugi2_some (o : BOp) (e : ME) (r : RV) (k : D) (s : S) (a : D) : kAugi2 Φ o e r k s (some a) = (toP (ev Φ e s)).run fun y s => augA r k s (augD o a y) := by rfl
noncomputable def kAugi (Φ : Fns) (ix : ME) (o : BOp) (e : ME) (r : RV) (s : S) : R := (toP (ev Φ ix s)).run fun k s => kAugi2 Φ o e r k s (getAt r k s)
@[simp] theorem kAugi_at (ix : ME) (o : BOp) (e : ME) (r : RV) (s : S) : kAugi Φ ix o e r s = (toP (ev Φ ix s)).run fun k s => kAugi2 Φ o e r k s (getAt r k s) := by rfl
@[simp] theorem ex_augi (x ix : ME) (o : BOp) (e : ME) : ex Φ (.augi x ix o e) s = (ev Φ x s).run (kAugi Φ ix o e) := by
  rw [ex]
  congr 1
  funext r s
  unfold kAugi
  congr 1
  funext k s
  cases getAt r k s with
  | none => rfl
  | some a =>
    dsimp only [kAugi2]
    congr 1
noncomputable def kAppop2 (Φ : Fns) (i : ME) (r r2 : RV) (s : S) : R := if isLst r2 then (toI (toP (ev Φ i s))).run fun k s => appopAt r r2 k s else .bad
@[simp] theorem kAppop2_at (i : ME) (r r2 : RV) (s : S) : kAppop2 Φ i r r2 s = if isLst r2 then (toI (toP (ev Φ i s))).run fun k s => appopAt r r2 k s else .bad := by rfl
noncomputable def kAppop (Φ : Fns) (y i : ME) (r : RV) (s : S) : R := if isLst r then (ev Φ y s).run (kAppop2 Φ i r) else .bad
@[simp] theorem kAppop_at (y i : ME) (r : RV) (s : S) : kAppop Φ y i r s = if isLst r then (ev Φ y s).run (kAppop2 Φ i r) else .bad := by rfl
@[simp] theorem ex_appop (x y i : ME) : ex Φ (.appop x y i) s = (ev Φ x s).run (kAppop Φ y i) := by rw [ex] <;> rfl
noncomputable def kApp (Φ : Fns) (e : ME) (r : RV) (s : S) : R := if isLst r then (toV (ev Φ e s)).run fun d s => pushAt r d s else .bad
@[simp] theorem kApp_at (e : ME) (r : RV) (s : S) : kApp Φ e r s = if isLst r then (toV (ev Φ e s)).run fun d s => pushAt r d s else .bad := by rfl
@[simp] theorem ex_app (x e : ME) : ex Φ (.app x e) s = (ev Φ x s).run (kApp Φ e) := by rw [ex] <;> rfl
noncomputable def kExt2 (r r2 : RV) (s : S) : R := match r2.items with
  | some es => pushAll r es s
  | none => .bad
@[simp] theorem kExt2_own (r : RV) (es : List D) (s : S) : kExt2 r (.own es) s = pushAll r es s := by rfl
@[simp] theorem kExt2_loc (r : RV) (j : Nat) (es : List D) (s : S) : kExt2 r (.loc j es) s = pushAll r es s := by rfl
noncomputable def kExt (Φ : Fns) (e : ME) (r : RV) (s : S) : R := if isLst r then (ev Φ e s).run (kExt2 r) else .bad
@[simp] theorem kExt_at (e : ME) (r : RV) (s : S) : kExt Φ e r s = if isLst r then (ev Φ e s).run (kExt2 r) else .bad := by rfl
@[simp] theorem ex_ext (x e : ME) : ex Φ (.ext x e) s = (ev Φ x s).run (kExt Φ e) := by rw [ex] <;> rfl
@[simp] theorem ex_pop (x : ME) : ex Φ (.pop x) s = (ev Φ x s).run fun r s => popAt r s := by rw [ex] <;> rfl
@[simp] theorem ex_expr (e : ME) : ex Φ (.expr e) s = (ev Φ e s).run fun _ s => .next s := by rw [ex]
noncomputable def kIte (Φ : Fns) (a b : MSs) (k : Bool) (s : S) : R := if k then exs Φ a s else exs Φ b s
@[simp] theorem kIte_t (a b : MSs) (s : S) : kIte Φ a b true s = exs Φ a s := by rfl
@[simp] theorem kIte_f (a b : MSs) (s : S) : kIte Φ a b false s = exs Φ b s := by rfl
@[simp] theorem ex_ite (c : ME) (a b : MSs) : ex Φ (.ite c a b) s = (toT (toP (ev Φ c s))).run (kIte Φ a b) := by rw [ex] <;> rfl
/-- a for's turns -/
noncomputable def forR (Φ : Fns) (t : MT) (b : MSs) (ds : List D) (s : S) : R := forGo (bindT t) (fun s => exs Φ b s) ds s
@[simp] theorem ex_for (t : MT) (it : MI) (b : MSs) : ex Φ (.for t it b) s = (evI Φ it s).run (forR Φ t b) := by rw [ex] <;> rfl
theorem ex_fork {t : List (Option Sl)} {h : List (List D)} (tg : MT) (i : Nat) (b : MSs) (kvs : List (Key × D)) (e : t[i]? = some (some (.dct kvs))) (hn : noLdk ⟨t, h⟩ = true) :
    ex Φ (.fork tg i b) ⟨t, h⟩ = endK i (forR Φ tg b (kvs.map fun q => keyD q.1) ⟨t.set i (some (.ldk kvs)), h⟩) := by
  rw [ex]
  dsimp only
  rw [e]
  dsimp only
  rw [if_pos hn]
  rfl
theorem endK_next (i : Nat) {t : List (Option Sl)} {h : List (List D)} {kvs : List (Key × D)} (e : t[i]? = some (some (.ldk kvs))) : endK i (.next ⟨t, h⟩) = .next ⟨t.set i (some (.dct kvs)), h⟩ := by
  unfold endK; dsimp only; rw [e]
@[simp] theorem ex_ret (e : ME) : ex Φ (.ret e) s = (ev Φ e s).run fun r s => .ret r s := by rw [ex]
@[simp] theorem ex_retN : ex Φ .retN s = .ret (.val .non) s := by rw [ex]
@[simp] theorem ex_raise (x : Str) (c : Nat) (e : ME) : ex Φ (.raise x c e) s = (toV (ev Φ e s)).run fun d s => if smallD d then .exc c d s else .bad := by rw [ex]
@[simp] theorem ex_pass : ex Φ .pass s = .next s := by rw [ex]
@[simp] theorem ex_brk : ex Φ .brk s = .brk s := by rw [ex]
@[simp] theorem ex_cnt : ex Φ .cnt s = .cnt s := by rw [ex]
/-- one statement, then the rest -/
noncomputable def andThen (Φ : Fns) (ms : MSs) (r : R) : R := match r with | .next s => exs Φ ms s | q => q
@[simp] theorem andThen_next (ms : MSs) (s : S) : andThen Φ ms (.next s) = exs Φ ms s := by rfl
@[simp] theorem andThen_ret (ms : MSs) (r : RV) (s : S) : andThen Φ ms (.ret r s) = .ret r s := by rfl
@[simp] theorem andThen_exc (ms : MSs) (c : Nat) (d : D) (s : S) : andThen Φ ms (.exc c d s) = .exc c d s := by rfl
@[simp] theorem andThen_brk (ms : MSs) (s : S) : andThen Φ ms (.brk s) = .brk s := by rfl
@[simp] theorem andThen_cnt (ms : MSs) (s : S) : andThen Φ ms (.cnt s) = .cnt s := by rfl
@[simp] theorem exs_nil : exs Φ .nil s = .next s := by rw [exs]
@[simp] theorem exs_cons (m : MS) (ms : MSs) : exs Φ (.cons m ms) s = andThen Φ ms (ex Φ m s) := by
  rw [exs]
  cases ex Φ m s <;> rfl
/-- try -/
def tryR (r : R) (k : Nat → D → S → R) : R := match r with | .exc c d s => k c d s | q => q
@[simp] theorem tryR_next (s : S) (k : Nat → D → S → R) : tryR (.next s) k = .next s := by rfl
@[simp] theorem tryR_ret (r : RV) (s : S) (k : Nat → D → S → R) : tryR (.ret r s) k = .ret r s := by rfl
@[simp] theorem tryR_exc (c : Nat) (d : D) (s : S) (k : Nat → D → S → R) : tryR (.exc c d s) k = k c d s := by rfl
noncomputable def kTry (Φ : Fns) (hs : MHs) (c : Nat) (d : D) (s : S) : R := exH Φ c d hs s
@[simp] theorem kTry_at (hs : MHs) (c : Nat) (d : D) (s : S) : kTry Φ hs c d s = exH Φ c d hs s := by rfl
@[simp] theorem ex_try (b : MSs) (hs : MHs) : ex Φ (.try b hs) s = tryR (exs Φ b s) (kTry Φ hs) := by
  rw [ex]
  cases exs Φ b s <;> rfl
def outR (i : Nat) : R → R
  | .next s => .next (outExc i s)
  | .brk s => .brk (outExc i s)
  | .cnt s => .cnt (outExc i s)
  | .ret (.val d) s => .ret (.val d) (outExc i s)
  | .ret (.own ds) s => .ret (.own ds) (outExc i s)
  | _ => .bad
@[simp] theorem outR_val (i : Nat) (d : D) (s : S) : outR i (.ret (.val d) s) = .ret (.val d) (outExc i s) := by rfl
@[simp] theorem outR_next (i : Nat) (s : S) : outR i (.next s) = .next (outExc i s) := by rfl
@[simp] theorem exH_cons (c : Nat) (d : D) (x : Str) (cs no : List Nat) (i : Nat) (b : MSs) (r : MHs) : exH Φ c d (.cons x cs no i b r) s = if cs.contains c then outR i (exs Φ b { s with t := (noExc s).t.set i (some (.exc c d)) }) else if no.contains c then exH Φ c d r s else .bad := by
  rw [exH]
  split
  · cases h : exs Φ b { s with t := (noExc s).t.set i (some (.exc c d)) } with
    | ret rv s => cases rv <;> rfl
    | _ => rfl
  · rfl
/-! values -/
@[simp] theorem bin_addI (i j : Int) : binD .add (.int i) (.int j) = some (.val (.int (i + j))) := by rfl
@[simp] theorem bin_subI (i j : Int) : binD .sub (.int i) (.int j) = some (.val (.int (i - j))) := by rfl
theorem bin_mulI {i j : Int} (h : mulOk i j = true) : binD .mul (.int i) (.int j) = some (.val (.int (i * j))) := by unfold binD; dsimp only; rw [if_pos h]
theorem bin_fdivI {i j : Int} (h : divOk j = true) : binD .fdiv (.int i) (.int j) = some (.val (.int (i.fdiv j))) := by unfold binD; dsimp only; rw [if_pos h]
theorem bin_modI {i j : Int} (h : j ≠ 0) : binD .mod (.int i) (.int j) = some (.val (.int (i.fmod j))) := by unfold binD; dsimp only; rw [if_neg h]
theorem bin_powI {i j : Int} (h : powOk i j = true) : binD .pow (.int i) (.int j) = some (.val (.int (i ^ j.toNat))) := by unfold binD; dsimp only; rw [if_pos h]
theorem bin_addT {a b : List D} (h : a.length + b.length ≤ line) : binD .add (.tup a) (.tup b) = some (.val (.tup (a ++ b))) := by unfold binD; dsimp only; rw [if_pos h]
theorem bin_addL {a b : List D} (h : a.length + b.length ≤ line) : binD .add (.lst a) (.lst b) = some (.own (a ++ b)) := by unfold binD; dsimp only; rw [if_pos h]
@[simp] theorem cmp_lt (i j : Int) : cmpD .lt (.int i) (.int j) = some (decide (i < j)) := by rfl
@[simp] theorem cmp_le (i j : Int) : cmpD .le (.int i) (.int j) = some (decide (i ≤ j)) := by rfl
@[simp] theorem cmp_gt (i j : Int) : cmpD .gt (.int i) (.int j) = some (decide (j < i)) := by rfl
@[simp] theorem cmp_ge (i j : Int) : cmpD .ge (.int i) (.int j) = some (decide (j ≤ i)) := by rfl
@[simp] theorem cmp_eqI (i j : Int) : cmpD .eq (.int i) (.int j) = some (decide (i = j)) := by simp [cmpD, dat, deq]; rfl
@[simp] theorem cmp_neI (i j : Int) : cmpD .ne (.int i) (.int j) = some (!decide (i = j)) := by simp [cmpD, dat, deq]; rfl
theorem cmp_eqD {d e : D} (h1 : dat 60 d = true) (h2 : dat 60 e = true) : cmpD .eq d e = some (deq d e) := by
  cases d <;> cases e <;> simp [cmpD, h1, h2]
theorem cmp_neD {d e : D} (h1 : dat 60 d = true) (h2 : dat 60 e = true) : cmpD .ne d e = some (!deq d e) := by
  cases d <;> cases e <;> simp [cmpD, h1, h2]
@[simp] theorem dat_int (n : Nat) (i : Int) : dat n (.int i) = true := by cases n <;> rfl
@[simp] theorem dat_bl (n : Nat) (i : Bool) : dat n (.bl i) = true := by cases n <;> rfl
@[simp] theorem dat_non (n : Nat) : dat n .non = true := by cases n <;> rfl
@[simp] theorem dat_str (n : Nat) (x : Str) : dat n (.str x) = PyData.canLay0 (.str x) := by cases n <;> rfl
@[simp] theorem dat_tup (n : Nat) (ds : List D) : dat (n + 1) (.tup ds) = dats n ds := by rfl
@[simp] theorem dat_lst (n : Nat) (ds : List D) : dat (n + 1) (.lst ds) = dats n ds := by rfl
@[simp] theorem dats_nil (n : Nat) : dats n [] = true := by cases n <;> rfl
@[simp] theorem dats_cons (n : Nat) (d : D) (ds : List D) : dats n (d :: ds) = (dat n d && dats n ds) := by cases n <;> rfl
@[simp] theorem deq_int (i j : Int) : deq (.int i) (.int j) = (i == j) := by rw [deq]
@[simp] theorem deq_str (i j : Str) : deq (.str i) (.str j) = (i == j) := by rw [deq]
@[simp] theorem deq_bl (i j : Bool) : deq (.bl i) (.bl j) = (i == j) := by rw [deq]
@[simp] theorem deq_non : deq .non .non = true := by rw [deq]
@[simp] theorem deq_tup (i j : List D) : deq (.tup i) (.tup j) = deqs i j := by rw [deq]
@[simp] theorem deq_lst (i j : List D) : deq (.lst i) (.lst j) = deqs i j := by rw [deq]
@[simp] theorem deqs_nil : deqs [] [] = true := by rw [deqs]
@[simp] theorem deqs_cons (x y : D) (xs ys : List D) : deqs (x :: xs) (y :: ys) = (deq x y && deqs xs ys) := by rw [deqs]
@[simp] theorem deqs_nc (y : D) (ys : List D) : deqs [] (y :: ys) = false := by rw [deqs] <;> simp
@[simp] theorem deqs_cn (x : D) (xs : List D) : deqs (x :: xs) [] = false := by rw [deqs] <;> simp
@[simp] theorem cmp_eqB (i j : Bool) : cmpD .eq (.bl i) (.bl j) = some (i == j) := by simp [cmpD]
@[simp] theorem cmp_neB (i j : Bool) : cmpD .ne (.bl i) (.bl j) = some (!(i == j)) := by simp [cmpD]
@[simp] theorem cmp_eqN : cmpD .eq .non .non = some true := by simp [cmpD]
@[simp] theorem cmp_eqS (x y : Str) : cmpD .eq (.str x) (.str y) = if PyData.canLay0 (.str x) && PyData.canLay0 (.str y) then some (x == y) else none := by simp [cmpD]
@[simp] theorem cmp_neS (x y : Str) : cmpD .ne (.str x) (.str y) = if PyData.canLay0 (.str x) && PyData.canLay0 (.str y) then some (!(x == y)) else none := by simp [cmpD]
@[simp] theorem cmp_isN (d : D) : cmpD .is d .non = some d.isNon := by cases d <;> rfl
@[simp] theorem cmp_isnotN (d : D) : cmpD .isnot d .non = some (!d.isNon) := by cases d <;> rfl
@[simp] theorem isNon_int (i : Int) : (D.int i).isNon = false := by rfl
@[simp] theorem isNon_tup (i : List D) : (D.tup i).isNon = false := by rfl
@[simp] theorem isNon_non : D.non.isNon = true := by rfl
theorem ixP_nat (m n : Nat) : ixP m (n : Int) = if n < m then some n else none := by
  unfold ixP
  rw [if_pos (by omega)]
  by_cases h : n < m
  · rw [if_pos (by omega), if_pos h]; simp
  · rw [if_neg (by omega), if_neg h]
@[simp] theorem ixP_lit (m n : Nat) : ixP m (no_index (@OfNat.ofNat Int n instOfNat)) = if (OfNat.ofNat n : Nat) < m then some (OfNat.ofNat n) else none := ixP_nat m n
theorem atD_nat (ds : List D) (n : Nat) : atD ds (n : Int) = ds[n]? := by
  unfold atD
  rw [ixP_nat]
  by_cases h : n < ds.length
  · rw [if_pos h]; rfl
  · rw [if_neg h, List.getElem?_eq_none (by omega)]; rfl
@[simp] theorem atD_lit (ds : List D) (n : Nat) : atD ds (no_index (@OfNat.ofNat Int n instOfNat)) = ds[(OfNat.ofNat n : Nat)]? := atD_nat ds n
@[simp] theorem atD_last (ds : List D) : atD ds (-1) = ds.getLast? := by
  unfold atD ixP
  rw [if_neg (by omega)]
  by_cases h : ds = []
  · subst h; rfl
  · have : 0 < ds.length := List.length_pos_iff.mpr h
    rw [if_pos (by omega), List.getLast?_eq_getElem?]
    have e : (-1 + (ds.length : Int)).toNat = ds.length - 1 := by omega
    rw [e]; rfl
/-- a heap, or nothing -/
def heapR (t : List (Option Sl)) : Option (List (List D)) → R
  | some h => .next ⟨t, h⟩
  | none => .bad
@[simp] theorem heapR_some (t : List (Option Sl)) (h : List (List D)) : heapR t (some h) = .next ⟨t, h⟩ := by rfl
@[simp] theorem putAt_ref (t : List (Option Sl)) (h : List (List D)) (c : Nat) (k : Int) (d : D) : putAt (.val (.ref c)) (.int k) d ⟨t, h⟩ = heapR t ((h[c]?).bind fun ds => (ixP ds.length k).map fun j => h.set c (ds.set j d)) := by
  unfold putAt
  dsimp only
  cases e : h[c]? with
  | none => rfl
  | some ds =>
    dsimp only
    cases e2 : ixP ds.length k with
    | none => simp [e2, heapR]
    | some j => simp [e2, heapR]
/-- slots, or nothing -/
def slotR (h : List (List D)) : Option (List (Option Sl)) → R
  | some t => .next ⟨t, h⟩
  | none => .bad
@[simp] theorem slotR_some (t : List (Option Sl)) (h : List (List D)) : slotR h (some t) = .next ⟨t, h⟩ := by rfl
def ownAt (t : List (Option Sl)) (i : Nat) : Option (List D) := match t[i]? with
  | some (some (.own ds)) => some ds
  | _ => none
@[simp] theorem putAt_loc (t : List (Option Sl)) (h : List (List D)) (i : Nat) (l : List D) (k : Int) (d : D) : putAt (.loc i l) (.int k) d ⟨t, h⟩ = slotR h ((ownAt t i).bind fun ds => (ixP ds.length k).map fun j => t.set i (some (.own (ds.set j d)))) := by
  unfold putAt ownAt
  dsimp only
  cases e : t[i]? with
  | none => rfl
  | some o =>
    cases o with
    | none => rfl
    | some sl =>
      cases sl with
      | own ds =>
        dsimp only [Option.bind_some]
        cases e2 : ixP ds.length k with
        | none => simp [e2, slotR]
        | some j => simp [e2, slotR]
      | _ => rfl
@[simp] theorem pushAt_loc (t : List (Option Sl)) (h : List (List D)) (i : Nat) (l : List D) (d : D) : pushAt (.loc i l) d ⟨t, h⟩ = slotR h ((ownAt t i).bind fun ds => if ds.length < line then some (t.set i (some (.own (ds ++ [d])))) else none) := by
  unfold pushAt ownAt
  dsimp only
  cases e : t[i]? with
  | none => rfl
  | some o =>
    cases o with
    | none => rfl
    | some sl =>
      cases sl with
      | own ds =>
        dsimp only [Option.bind_some]
        split <;> rfl
      | _ => rfl
@[simp] theorem pushAll_loc (t : List (Option Sl)) (h : List (List D)) (i : Nat) (l : List D) (es : List D) : pushAll (.loc i l) es ⟨t, h⟩ = slotR h ((ownAt t i).bind fun ds => if ds.length + es.length ≤ line then some (t.set i (some (.own (ds ++ es)))) else none) := by
  unfold pushAll ownAt
  dsimp only
  cases e : t[i]? with
  | none => rfl
  | some o =>
    cases o with
    | none => rfl
    | some sl =>
      cases sl with
      | own ds =>
        dsimp only [Option.bind_some]
        split <;> rfl
      | _ => rfl
@[simp] theorem popAt_loc (t : List (Option Sl)) (h : List (List D)) (i : Nat) (l : List D) : popAt (.loc i l) ⟨t, h⟩ = slotR h ((ownAt t i).bind fun ds => if 0 < ds.length then some (t.set i (some (.own (ds.dropLast)))) else none) := by
  unfold popAt ownAt
  dsimp only
  cases e : t[i]? with
  | none => rfl
  | some o =>
    cases o with
    | none => rfl
    | some sl =>
      cases sl with
      | own ds =>
        dsimp only [Option.bind_some]
        split <;> rfl
      | _ => rfl
@[simp] theorem getAt_ref (t : List (Option Sl)) (h : List (List D)) (c : Nat) (k : Int) : getAt (.val (.ref c)) (.int k) ⟨t, h⟩ = (h[c]?).bind fun ds => atD ds k := by
  unfold getAt
  dsimp only
  cases e : h[c]? with
  | none => rfl
  | some ds => rfl
@[simp] theorem getAt_loc (t : List (Option Sl)) (h : List (List D)) (i : Nat) (l : List D) (k : Int) : getAt (.loc i l) (.int k) ⟨t, h⟩ = (ownAt t i).bind fun ds => atD ds k := by
  unfold getAt ownAt
  dsimp only
  cases e : t[i]? with
  | none => rfl
  | some o =>
    cases o with
    | none => rfl
    | some sl =>
      cases sl with
      | own ds => rfl
      | _ => rfl
theorem putAt_ldc {t : List (Option Sl)} {h : List (List D)} {i : Nat} {l kvs : List (Key × D)} {k d : D} {q : Key} (e : t[i]? = some (some (.dct kvs))) (hq : keyOf k = some q) (hl : kvs.length < line) :
    putAt (.ldc i l) k d ⟨t, h⟩ = .next ⟨t.set i (some (.dct (kput kvs q d))), h⟩ := by
  unfold putAt
  dsimp only
  rw [hq, e]
  dsimp only
  rw [if_pos hl]
theorem appop_at {t : List (Option Sl)} {h : List (List D)} {i j : Nat} {l l2 ds es : List D} {k : Int} {n : Nat} {d : D} (hij : i ≠ j) (hi : t[i]? = some (some (.own ds))) (hj : t[j]? = some (some (.own es))) (hs : smallI k = true) (hn : ixP es.length k = some n) (hd : es[n]? = some d) (hl : ds.length < line) :
    appopAt (.loc i l) (.loc j l2) k ⟨t, h⟩ = .next ⟨(t.set j (some (.own (es.eraseIdx n)))).set i (some (.own (ds ++ [d]))), h⟩ := by
  unfold appopAt
  dsimp only
  rw [if_neg hij, hi, hj]
  dsimp only
  rw [if_pos hs, hn]
  dsimp only
  rw [hd]
  dsimp only
  rw [if_pos hl]
@[simp] theorem isLst_loc (i : Nat) (l : List D) : isLst (.loc i l) = true := by rfl
@[simp] theorem isLst_ref (c : Nat) : isLst (.val (.ref c)) = true := by rfl
@[simp] theorem blt_lenT (xs : List D) : bltD .len [.tup xs] = some (.val (.int xs.length)) := by rfl
@[simp] theorem blt_lenL (xs : List D) : bltD .len [.lst xs] = some (.val (.int xs.length)) := by rfl
@[simp] theorem blt_abs (i : Int) : bltD .abs [.int i] = some (.val (.int (if i < 0 then -i else i))) := by rfl
@[simp] theorem blt_intI (i : Int) : bltD .int [.int i] = some (.val (.int i)) := by rfl
@[simp] theorem blt_intB (b : Bool) : bltD .int [.bl b] = some (.val (.int (if b then 1 else 0))) := by rfl
@[simp] theorem blt_max2 (i j : Int) : bltD .max2 [.int i, .int j] = some (.val (.int (if j > i then j else i))) := by rfl
@[simp] theorem blt_min2 (i j : Int) : bltD .min2 [.int i, .int j] = some (.val (.int (if j < i then j else i))) := by rfl
@[simp] theorem blt_tupL (xs : List D) : bltD .tuple [.lst xs] = some (.val (.tup xs)) := by rfl
@[simp] theorem blt_tupT (xs : List D) : bltD .tuple [.tup xs] = some (.val (.tup xs)) := by rfl
@[simp] theorem blt_lstL (xs : List D) : bltD .list [.lst xs] = some (.own xs) := by rfl
@[simp] theorem blt_lstT (xs : List D) : bltD .list [.tup xs] = some (.own xs) := by rfl
@[simp] theorem blt_bits (i : Int) : bltD .bits [.int i] = some (.val (.int (if i = 0 then 0 else i.natAbs.log2 + 1))) := by rfl
theorem blt_sorted {xs : List D} {ns : List Int} (h : intsOf xs = some ns) : bltD .sorted [.lst xs] = some (.own ((sortD ns).map D.int)) := by unfold bltD; dsimp only; rw [h]; rfl
theorem blt_sum {xs : List D} {ns : List Int} (h : intsOf xs = some ns) : bltD .sum [.lst xs] = some (.val (.int ns.sum)) := by unfold bltD; dsimp only; rw [h]; rfl
theorem blt_sumT {xs : List D} {ns : List Int} (h : intsOf xs = some ns) : bltD .sum [.tup xs] = some (.val (.int ns.sum)) := by unfold bltD; dsimp only; rw [h]; rfl
theorem blt_max1L {xs : List D} {ns : List Int} {m : Int} (h : intsOf xs = some ns) (hm : ns.max? = some m) : bltD .max1 [.lst xs] = some (.val (.int m)) := by unfold bltD; dsimp only; rw [h]; dsimp only [Option.bind_some]; rw [hm]; rfl
theorem blt_max1T {xs : List D} {ns : List Int} {m : Int} (h : intsOf xs = some ns) (hm : ns.max? = some m) : bltD .max1 [.tup xs] = some (.val (.int m)) := by unfold bltD; dsimp only; rw [h]; dsimp only [Option.bind_some]; rw [hm]; rfl
theorem blt_min1L {xs : List D} {ns : List Int} {m : Int} (h : intsOf xs = some ns) (hm : ns.min? = some m) : bltD .min1 [.lst xs] = some (.val (.int m)) := by unfold bltD; dsimp only; rw [h]; dsimp only [Option.bind_some]; rw [hm]; rfl
theorem blt_min1T {xs : List D} {ns : List Int} {m : Int} (h : intsOf xs = some ns) (hm : ns.min? = some m) : bltD .min1 [.tup xs] = some (.val (.int m)) := by unfold bltD; dsimp only; rw [h]; dsimp only [Option.bind_some]; rw [hm]; rfl
theorem blt_all {xs : List D} {ns : List Bool} (h : blsOf xs = some ns) : bltD .all [.lst xs] = some (.val (.bl (ns.all id))) := by unfold bltD; dsimp only; rw [h]; rfl
theorem blt_any {xs : List D} {ns : List Bool} (h : blsOf xs = some ns) : bltD .any [.lst xs] = some (.val (.bl (ns.any id))) := by unfold bltD; dsimp only; rw [h]; rfl
@[simp] theorem idx_tup (s : S) (ds : List D) (i : Int) : idxD s (.tup ds) (.int i) = atD ds i := by rfl
@[simp] theorem idx_lst (s : S) (ds : List D) (i : Int) : idxD s (.lst ds) (.int i) = atD ds i := by rfl
@[simp] theorem idx_ref (t : List (Option Sl)) (h : List (List D)) (k : Nat) (i : Int) : idxD ⟨t, h⟩ (.ref k) (.int i) = (h[k]?).bind fun ds => atD ds i := by rfl
end
/-! ### calls -/
theorem Phi_run {fs : List Def} {k : Nat} {f : Str} {ds : List D} {h : List (List D)} {d : Def} (hl : lookD fs f = some d) (hn : ds.length = d.ps) : Phi fs (k + 1) f ds h = endF h.length (exs (Phi fs k) d.body ⟨startT d.n ds, h⟩) := by
  rw [Phi, hl]
  dsimp only
  rw [if_pos hn]
@[simp] theorem endF_r {k : Nat} {r : RV} {t : List (Option Sl)} {h : List (List D)} (e : h.length = k) : endF k (.ret r ⟨t, h⟩) = endV r h := by
  show (if h.length = k then endV r h else _) = _
  rw [if_pos e]
@[simp] theorem endV_val (d : D) (h : List (List D)) : endV (.val d) h = .ok (.val d) h := by rfl
@[simp] theorem endV_own (d : List D) (h : List (List D)) : endV (.own d) h = .ok (.own d) h := by rfl
@[simp] theorem endV_loc (i : Nat) (d : List D) (h : List (List D)) : endV (.loc i d) h = .ok (.own d) h := by rfl
@[simp] theorem endV_dct (d : List (Key × D)) (h : List (List D)) : endV (.dct d) h = .ok (.dct d) h := by rfl
@[simp] theorem endV_ldc (i : Nat) (d : List (Key × D)) (h : List (List D)) : endV (.ldc i d) h = .ok (.dct d) h := by rfl
theorem endF_val (d : D) (t : List (Option Sl)) (h : List (List D)) : endF h.length (.ret (.val d) ⟨t, h⟩) = .ok (.val d) h := endF_r rfl
theorem endF_own (d : List D) (t : List (Option Sl)) (h : List (List D)) : endF h.length (.ret (.own d) ⟨t, h⟩) = .ok (.own d) h := endF_r rfl
theorem endF_loc (i : Nat) (d : List D) (t : List (Option Sl)) (h : List (List D)) : endF h.length (.ret (.loc i d) ⟨t, h⟩) = .ok (.own d) h := endF_r rfl
@[simp] theorem endF_nxt (t : List (Option Sl)) (h : List (List D)) : endF h.length (.next ⟨t, h⟩) = .ok (.val .non) h := by
  show (if h.length = h.length then _ else _) = _
  rw [if_pos rfl]
@[simp] theorem endF_ex (c : Nat) (d : D) (t : List (Option Sl)) (h : List (List D)) : endF h.length (.exc c d ⟨t, h⟩) = .exc c d h := by
  show (if h.length = h.length then _ else _) = _
  rw [if_pos rfl]
/-! ### loops -/
theorem iter_det {α β : Type} {f : α → α ⊕ β} : ∀ {n m : Nat} {a : α} {r q : β}, iterF f n a = some r → iterF f m a = some q → r = q
  | 0, _, _, _, _, h, _ => by cases h
  | _ + 1, 0, _, _, _, _, h => by cases h
  | n + 1, m + 1, a, r, q, h, k => by
    unfold iterF at h k
    cases e : f a with
    | inr b => rw [e] at h k; cases h; cases k; rfl
    | inl a' => rw [e] at h k; exact iter_det h k
theorem fixF_of {α β : Type} {f : α → α ⊕ β} {a : α} {r : β} {n : Nat} (h : iterF f n a = some r) : fixF f a = some r := by
  have hx : ∃ n b, iterF f n a = some b := ⟨n, r, h⟩
  unfold fixF
  rw [dif_pos hx]
  have := hx.choose_spec.choose_spec
  rw [iter_det this h]
noncomputable def wTurn (Φ : Fns) (c : ME) (b : MSs) (s : S) : S ⊕ R := match toT (toP (ev Φ c s)) with
  | .ok false s1 => .inr (.next s1)
  | .ok true s1 => match exs Φ b s1 with
    | .next s2 => .inl s2
    | .cnt s2 => .inl s2
    | .brk s2 => .inr (.next s2)
    | r => .inr r
  | .exc c d s1 => .inr (.exc c d s1)
  | .bad => .inr .bad
/-- while: an invariant, a measure; Q of what comes out -/
theorem ex_while {Φ : Fns} {c : ME} {b : MSs} (I : S → Prop) (m : S → Nat) (Q : R → Prop)
    (h : ∀ s, I s → match toT (toP (ev Φ c s)) with
      | .ok false s1 => Q (.next s1)
      | .ok true s1 => (match exs Φ b s1 with
        | .next s2 => I s2 ∧ m s2 < m s
        | .cnt s2 => I s2 ∧ m s2 < m s
        | .brk s2 => Q (.next s2)
        | r => Q r)
      | .exc c d s1 => Q (.exc c d s1)
      | .bad => Q .bad) (s : S) (hs : I s) : Q (ex Φ (.while c b) s) := by
  have key : ∀ (n : Nat) (s : S), m s < n → I s → ∃ r, iterF (wTurn Φ c b) n s = some r ∧ Q r := by
    intro n
    induction n with
    | zero => intro s hm; omega
    | succ n ih =>
      intro s hm hI
      have hh := h s hI
      unfold iterF
      cases e : toT (toP (ev Φ c s)) with
      | ok k s1 =>
        rw [e] at hh
        cases k with
        | false => simp only [wTurn, e]; exact ⟨_, rfl, hh⟩
        | true =>
          dsimp only at hh
          simp only [wTurn, e]
          cases e3 : exs Φ b s1 with
          | next s2 => rw [e3] at hh; exact ih s2 (by omega) hh.1
          | cnt s2 => rw [e3] at hh; exact ih s2 (by omega) hh.1
          | brk s2 => rw [e3] at hh; exact ⟨_, rfl, hh⟩
          | ret r s2 => rw [e3] at hh; exact ⟨_, rfl, hh⟩
          | exc c d s2 => rw [e3] at hh; exact ⟨_, rfl, hh⟩
          | bad => rw [e3] at hh; exact ⟨_, rfl, hh⟩
      | exc cc d s1 => rw [e] at hh; simp only [wTurn, e]; exact ⟨_, rfl, hh⟩
      | bad => rw [e] at hh; simp only [wTurn, e]; exact ⟨_, rfl, hh⟩
  obtain ⟨r, h1, h2⟩ := key (m s + 1) s (Nat.lt_succ_self _) hs
  have : ex Φ (.while c b) s = (fixF (wTurn Φ c b) s).getD .bad := by rw [ex] <;> rfl
  rw [this, fixF_of h1]
  exact h2
/-- while, by cases of a turn -/
theorem ex_loop {Φ : Fns} {c : ME} {b : MSs} (I : S → Prop) (m : S → Nat) (Q : R → Prop)
    (h : ∀ s, I s → (∃ s1, toT (toP (ev Φ c s)) = .ok false s1 ∧ Q (.next s1)) ∨
      ∃ s1, toT (toP (ev Φ c s)) = .ok true s1 ∧ ((∃ s2, exs Φ b s1 = .next s2 ∧ I s2 ∧ m s2 < m s) ∨ (∃ s2, exs Φ b s1 = .brk s2 ∧ Q (.next s2)) ∨ ∃ rv s2, exs Φ b s1 = .ret rv s2 ∧ Q (.ret rv s2))) (s : S) (hs : I s) : Q (ex Φ (.while c b) s) := by
  refine ex_while I m Q (fun s hI => ?_) s hs
  rcases h s hI with ⟨s1, e, q⟩ | ⟨s1, e, ⟨s2, e2, q⟩ | ⟨s2, e2, q⟩ | ⟨rv, s2, e2, q⟩⟩
  · rw [e]; exact q
  · rw [e]; dsimp only; rw [e2]; exact q
  · rw [e]; dsimp only; rw [e2]; exact q
  · rw [e]; dsimp only; rw [e2]; exact q
/-- for: an invariant by the place -/
theorem for_inv {f : D → S → Option S} {body : S → R} (ds : List D) (I : Nat → S → Prop) (Q : R → Prop)
    (h : ∀ (i : Nat) (d : D) (s : S), ds[i]? = some d → I i s → match f d s with
      | none => Q .bad
      | some s1 => match body s1 with
        | .next s2 => I (i + 1) s2
        | .cnt s2 => I (i + 1) s2
        | .brk s2 => Q (.next s2)
        | r => Q r) (hd : ∀ s, I ds.length s → Q (.next s)) (s : S) (hs : I 0 s) : Q (forGo f body ds s) := by
  have key : ∀ (n i : Nat) (s : S), ds.length - i = n → i ≤ ds.length → I i s → Q (forGo f body (ds.drop i) s) := by
    intro n
    induction n with
    | zero =>
      intro i s hn hi hI
      have : i = ds.length := by omega
      subst this
      rw [List.drop_length]
      exact hd s hI
    | succ n ih =>
      intro i s hn hi hI
      have hlt : i < ds.length := by omega
      have hh := h i ds[i] s (List.getElem?_eq_getElem hlt) hI
      rw [List.drop_eq_getElem_cons hlt]
      unfold forGo
      cases e : f ds[i] s with
      | none => rw [e] at hh; exact hh
      | some s1 =>
        rw [e] at hh
        dsimp only at hh ⊢
        cases e2 : body s1 with
        | next s2 => rw [e2] at hh; exact ih (i + 1) s2 (by omega) hlt hh
        | cnt s2 => rw [e2] at hh; exact ih (i + 1) s2 (by omega) hlt hh
        | brk s2 => rw [e2] at hh; exact hh
        | ret r s2 => rw [e2] at hh; exact hh
        | exc c d s2 => rw [e2] at hh; exact hh
        | bad => rw [e2] at hh; exact hh
  have := key ds.length 0 s (by omega) (Nat.zero_le _) hs
  rwa [List.drop_zero] at this
/-- for over a list of items -/
theorem forR_inv {Φ : Fns} {t : MT} {b : MSs} (ds : List D) (I : Nat → S → Prop) (Q : R → Prop)
    (h : ∀ (i : Nat) (d : D) (s : S), ds[i]? = some d → I i s → match bindT t d s with
      | none => Q .bad
      | some s1 => match exs Φ b s1 with
        | .next s2 => I (i + 1) s2
        | .cnt s2 => I (i + 1) s2
        | .brk s2 => Q (.next s2)
        | r => Q r) (hd : ∀ s, I ds.length s → Q (.next s)) (s : S) (hs : I 0 s) : Q (forR Φ t b ds s) := for_inv ds I Q h hd s hs
/-! ### comprehensions -/
theorem lcGo_fm {Φ : Fns} {tg : MT} {cond : MO} {elt : ME} (I : S → Prop) (f : D → Option D) : ∀ (items acc : List D) (s : S), (∀ d ∈ items, ∀ s, I s → ∃ s', turnL Φ tg cond elt d s = .ok (f d) s' ∧ I s') → acc.length + items.length ≤ line → I s →
    ∃ s', lcGo (turnL Φ tg cond elt) acc items s = .ok (acc ++ items.filterMap f) s' ∧ I s'
  | [], acc, s, h, hl, hI => ⟨s, by simp [lcGo], hI⟩
  | d :: items, acc, s, h, hl, hI => by
    obtain ⟨s1, e1, hI1⟩ := h d List.mem_cons_self s hI
    rw [List.length_cons] at hl
    unfold lcGo
    rw [e1]
    cases e : f d with
    | none =>
      dsimp only
      obtain ⟨s2, e2, hI2⟩ := lcGo_fm I f items acc s1 (fun d hd => h d (List.mem_cons_of_mem _ hd)) (by omega) hI1
      exact ⟨s2, by rw [e2, List.filterMap_cons_none e], hI2⟩
    | some v =>
      dsimp only
      rw [if_pos (by omega)]
      obtain ⟨s2, e2, hI2⟩ := lcGo_fm I f items (acc ++ [v]) s1 (fun d hd => h d (List.mem_cons_of_mem _ hd)) (by rw [List.length_append]; simp; omega) hI1
      exact ⟨s2, by rw [e2, List.filterMap_cons_some e]; simp, hI2⟩
/-- a comprehension with one variable, at slot i; its turns leave the heap and the other slots -/
theorem lcR_fm {Φ : Fns} {i : Nat} {cond : MO} {elt : ME} (f : D → Option D) (items : List D) (t : List (Option Sl)) (h : List (List D)) (hl : items.length ≤ line)
    (ht : ∀ d ∈ items, ∀ x, turnL Φ (.name i) cond elt d ⟨t.set i x, h⟩ = .ok (f d) ⟨t.set i (some (.val d)), h⟩) :
    lcR Φ elt (.name i) cond items ⟨t, h⟩ = .ok (.own (items.filterMap f)) ⟨t.set i (match t[i]? with | some (some (.val d)) => some (.val d) | _ => none), h⟩ := by
  have h0 : ∃ x, (⟨t, h⟩ : S) = ⟨t.set i x, h⟩ := by
    by_cases hi : i < t.length
    · exact ⟨t[i], by rw [List.set_getElem_self]⟩
    · exact ⟨none, by rw [List.set_eq_of_length_le (by omega)]⟩
  obtain ⟨s', e, x, rfl⟩ := lcGo_fm (Φ := Φ) (tg := .name i) (cond := cond) (elt := elt) (fun s => ∃ x, s = ⟨t.set i x, h⟩) f items [] ⟨t, h⟩ (fun d hd s hI => by
    obtain ⟨x, rfl⟩ := hI
    exact ⟨_, ht d hd x, _, rfl⟩) (by simpa using hl) h0
  unfold lcR
  rw [e]
  simp [MT.ids, backT, List.set_set] <;> rfl
/-- the int of a slot, for a measure -/
def intAt (i : Nat) (s : S) : Int := match s.t[i]? with
  | some (some (.val (.int b))) => b
  | _ => 0
@[simp] theorem intAt_mk (i : Nat) (t : List (Option Sl)) (h : List (List D)) : intAt i ⟨t, h⟩ = match t[i]? with
  | some (some (.val (.int b))) => b
  | _ => 0 := by rfl
end PI

namespace PI
open PySem L2
/-! ### the defs that the laws share, as they stand in each law's text -/
def c_law_draw : Def := ⟨"_law_draw", 2, 4,
  (.cons (.ite (.bop true (.cons (.cmp (.idx (.var 0) (.cst (.int 2))) (.cons .le (.cst (.int 0)) .nil)) (.cons (.cmp (.idx (.var 0) (.cst (.int 4))) (.cons .le (.cst (.int 0)) .nil)) (.cons (.cmp (.idx (.var 0) (.cst (.int 1))) (.cons .lt (.blt .len (.cons (.idx (.var 0) (.cst (.int 0))) .nil)) .nil)) .nil)))) (.cons (.set (.name 2) (.idx (.idx (.var 0) (.cst (.int 0))) (.idx (.var 0) (.cst (.int 1)))))
  (.cons (.seti (.var 0) (.cst (.int 1)) (.bin .add (.idx (.var 0) (.cst (.int 1))) (.cst (.int 1))))
  (.cons (.seti (.var 0) (.cst (.int 3)) (.bin .mod (.blt .int (.cons (.bin .add (.bin .mul (.idx (.var 0) (.cst (.int 3))) (.cst (.int 31))) (.var 2)) .nil)) (.cst (.int 2147483647))))
  (.cons (.seti (.var 0) (.cst (.int 4)) (.cst (.int 7)))
  (.cons (.ite (.cmp (.var 2) (.cons .ge (.bin .pow (.cst (.int 10)) (.cst (.int 18))) .nil)) (.cons (.seti (.var 0) (.cst (.int 2)) (.var 2))
  .nil) .nil)
  .nil))))) .nil)
  (.cons (.ite (.cmp (.idx (.var 0) (.cst (.int 2))) (.cons .gt (.cst (.int 0)) .nil)) (.cons (.set (.name 3) (.bin .mod (.blt .int (.cons (.idx (.var 0) (.cst (.int 2))) .nil)) (.var 1)))
  (.cons (.seti (.var 0) (.cst (.int 2)) (.bin .fdiv (.idx (.var 0) (.cst (.int 2))) (.var 1)))
  (.cons (.seti (.var 0) (.cst (.int 4)) (.cst (.int 0)))
  (.cons (.ret (.var 3))
  .nil)))) .nil)
  (.cons (.seti (.var 0) (.cst (.int 4)) (.bin .sub (.idx (.var 0) (.cst (.int 4))) (.cst (.int 1))))
  (.cons (.seti (.var 0) (.cst (.int 3)) (.bin .mod (.blt .int (.cons (.bin .add (.bin .mul (.idx (.var 0) (.cst (.int 3))) (.cst (.int 48271))) (.cst (.int 12345))) .nil)) (.cst (.int 2147483647))))
  (.cons (.ret (.bin .mod (.bin .mod (.blt .int (.cons (.bin .add (.bin .mul (.idx (.var 0) (.cst (.int 3))) (.cst (.int 69621))) (.cst (.int 7919))) .nil)) (.cst (.int 2147483647))) (.var 1)))
  .nil)))))⟩
def c_law_gcd : Def := ⟨"_law_gcd", 2, 5,
  (.cons (.set (.name 2) (.blt .abs (.cons (.var 0) .nil)))
  (.cons (.set (.name 3) (.blt .abs (.cons (.var 1) .nil)))
  (.cons (.for (.name 4) (.rng1 (.bin .add (.cst (.int 4000)) (.bin .mul (.cst (.int 2)) (.blt .bits (.cons (.var 3) .nil))))) (.cons (.ite (.cmp (.var 3) (.cons .eq (.cst (.int 0)) .nil)) (.cons .brk
  .nil) .nil)
  (.cons (.par 2 3 (.var 3) (.bin .mod (.blt .int (.cons (.var 2) .nil)) (.var 3)))
  .nil)))
  (.cons (.ret (.var 2))
  .nil))))⟩
def c_law_same : Def := ⟨"_law_same", 2, 3,
  (.cons (.ite (.bop false (.cons (.isi (.var 1) .tup) (.cons (.isi (.var 1) .lst) .nil))) (.cons (.ite (.bop false (.cons (.cmp (.isi (.var 1) .tup) (.cons .ne (.isi (.var 0) .tup) .nil)) (.cons (.cmp (.isi (.var 1) .lst) (.cons .ne (.isi (.var 0) .lst) .nil)) .nil))) (.cons (.ret (.cst (.bl false)))
  .nil) .nil)
  (.cons (.ite (.cmp (.blt .len (.cons (.var 0) .nil)) (.cons .ne (.blt .len (.cons (.var 1) .nil)) .nil)) (.cons (.ret (.cst (.bl false)))
  .nil) .nil)
  (.cons (.for (.name 2) (.rng1 (.blt .len (.cons (.var 1) .nil))) (.cons (.ite (.not (.call "_law_same" (.cons (.idx (.var 0) (.var 2)) (.cons (.idx (.var 1) (.var 2)) .nil)))) (.cons (.ret (.cst (.bl false)))
  .nil) .nil)
  .nil))
  (.cons (.ret (.cst (.bl true)))
  .nil)))) .nil)
  (.cons (.ite (.bop false (.cons (.cmp (.var 1) (.cons .is (.cst .non) .nil)) (.cons (.isi (.var 1) .bl) .nil))) (.cons (.ret (.bop true (.cons (.cmp (.cmp (.var 0) (.cons .is (.cst .non) .nil)) (.cons .eq (.cmp (.var 1) (.cons .is (.cst .non) .nil)) .nil)) (.cons (.bop false (.cons (.cmp (.var 1) (.cons .is (.cst .non) .nil)) (.cons (.isi (.var 0) .bl) .nil))) (.cons (.cmp (.var 0) (.cons .eq (.var 1) .nil)) .nil)))))
  .nil) .nil)
  (.cons (.ite (.isi (.var 1) .int) (.cons (.ret (.bop true (.cons (.isi (.var 0) .int) (.cons (.not (.isi (.var 0) .bl)) (.cons (.cmp (.var 0) (.cons .eq (.var 1) .nil)) .nil)))))
  .nil) .nil)
  (.cons (.ret (.bop true (.cons (.isi (.var 0) .str) (.cons (.cmp (.var 0) (.cons .eq (.var 1) .nil)) .nil))))
  .nil))))⟩
def c_law_some : Def := ⟨"_law_some", 1, 2,
  (.cons (.set (.name 1) (.call "_law_draw" (.cons (.var 0) (.cons (.cst (.int 8)) .nil))))
  (.cons (.ite (.cmp (.var 1) (.cons .lt (.cst (.int 4)) .nil)) (.cons (.ret (.call "_law_draw" (.cons (.var 0) (.cons (.cst (.int 40)) .nil))))
  .nil) .nil)
  (.cons (.ite (.cmp (.var 1) (.cons .lt (.cst (.int 6)) .nil)) (.cons (.ret (.call "_law_draw" (.cons (.var 0) (.cons (.cst (.int 3000)) .nil))))
  .nil) .nil)
  (.cons (.ite (.cmp (.var 1) (.cons .eq (.cst (.int 6)) .nil)) (.cons (.ret (.call "_law_draw" (.cons (.var 0) (.cons (.bin .pow (.cst (.int 10)) (.cst (.int 6))) .nil))))
  .nil) .nil)
  (.cons (.ret (.call "_law_draw" (.cons (.var 0) (.cons (.bin .pow (.cst (.int 10)) (.cst (.int 10))) .nil))))
  .nil)))))⟩
def c_law_sign : Def := ⟨"_law_sign", 2, 2,
  (.cons (.ret (.bin .mul (.var 1) (.bin .sub (.cst (.int 1)) (.bin .mul (.cst (.int 2)) (.call "_law_draw" (.cons (.var 0) (.cons (.cst (.int 2)) .nil)))))))
  .nil)⟩
def c_law_huge : Def := ⟨"_law_huge", 1, 1,
  (.cons (.ret (.call "_law_sign" (.cons (.var 0) (.cons (.bin .add (.bin .mul (.call "_law_draw" (.cons (.var 0) (.cons (.bin .pow (.cst (.int 10)) (.cst (.int 20))) .nil))) (.call "_law_draw" (.cons (.var 0) (.cons (.bin .pow (.cst (.int 10)) (.cst (.int 20))) .nil)))) (.call "_law_draw" (.cons (.var 0) (.cons (.bin .pow (.cst (.int 10)) (.cst (.int 20))) .nil)))) .nil))))
  .nil)⟩
def c_law_touched : Def := ⟨"_law_touched", 2, 3,
  (.cons (.ite (.bop true (.cons (.isi (.var 1) .tup) (.cons (.cmp (.blt .len (.cons (.var 1) .nil)) (.cons .gt (.cst (.int 0)) .nil)) .nil))) (.cons (.set (.name 2) (.call "_law_draw" (.cons (.var 0) (.cons (.blt .len (.cons (.var 1) .nil)) .nil))))
  (.cons (.ret (.bin .add (.bin .add (.slc (.var 1) .none (.some (.var 2))) (.tup (.cons (.call "_law_touched" (.cons (.var 0) (.cons (.idx (.var 1) (.var 2)) .nil))) .nil))) (.slc (.var 1) (.some (.bin .add (.var 2) (.cst (.int 1)))) .none)))
  .nil)) .nil)
  (.cons (.ite (.isi (.var 1) .int) (.cons (.ret (.bin .add (.var 1) (.idx (.tup (.cons (.cst (.int 1)) (.cons (.bin .sub (.cst (.int 0)) (.cst (.int 1))) (.cons (.cst (.int 2)) (.cons (.bin .sub (.cst (.int 0)) (.var 1)) (.cons (.var 1) (.cons (.bin .sub (.cst (.int 0)) (.bin .mul (.cst (.int 2)) (.var 1))) (.cons (.bin .pow (.cst (.int 10)) (.cst (.int 12))) .nil)))))))) (.call "_law_draw" (.cons (.var 0) (.cons (.cst (.int 7)) .nil))))))
  .nil) .nil)
  (.cons (.ret (.var 1))
  .nil)))⟩
def c_law_plain : Def := ⟨"_law_plain", 1, 2,
  (.cons (.ite (.isi (.var 0) .tup) (.cons (.ret (.cmp (.cst (.bl false)) (.cons .notin (.lc (.call "_law_plain" (.cons (.var 1) .nil)) (.name 1) (.seq (.var 0)) .none) .nil)))
  .nil) .nil)
  (.cons (.ret (.bop false (.cons (.isi (.var 0) .str) (.cons (.bop true (.cons (.isi (.var 0) .int) (.cons (.not (.isi (.var 0) .bl)) .nil))) .nil))))
  .nil))⟩
def c_law_divides : Def := ⟨"_law_divides", 2, 2,
  (.cons (.ite (.cmp (.var 0) (.cons .eq (.cst (.int 0)) .nil)) (.cons (.ret (.cmp (.var 1) (.cons .eq (.cst (.int 0)) .nil)))
  .nil) .nil)
  (.cons (.ret (.cmp (.bin .mod (.blt .int (.cons (.var 1) .nil)) (.var 0)) (.cons .eq (.cst (.int 0)) .nil)))
  .nil))⟩
def PoolOk (p : List D) : Prop := ∃ (ns : List Int) (i x s c : Int), p = [.lst (ns.map .int), .int i, .int x, .int s, .int c, .int 0] ∧ 0 ≤ i
theorem atD_pos (ds : List D) (i : Nat) (d : D) (h : ds[i]? = some d) : atD ds (i : Int) = some d := by
  have hl : i < ds.length := (List.getElem?_eq_some_iff.mp h).1
  unfold atD ixP
  rw [if_pos (by omega), if_pos (by omega)]
  simpa using h
theorem draw1 {fs : List Def} {k : Nat} (hl : lookD fs "_law_draw" = some c_law_draw) {p : List D} {size : Int} (hp : PoolOk p) (h0 : 0 < size) (h1 : size.natAbs.log2 < 9000) :
    ∃ v p', Phi fs (k + 1) "_law_draw" [.ref 0, .int size] [p] = .ok (.val (.int v)) [p'] ∧ PoolOk p' ∧ 0 ≤ v ∧ v < size := by
  obtain ⟨ns, i, x, s, c, rfl, hi⟩ := hp
  rw [Phi_run hl rfl]
  have hs0 : size ≠ 0 := by omega
  have hdv : divOk size = true := by simp [divOk, hs0, h1]
  have hm1 : ∀ i : Int, mulOk i 31 = true := fun i => by simp [mulOk]
  have hm2 : ∀ i : Int, mulOk i 48271 = true := fun i => by simp [mulOk]
  have hm3 : ∀ i : Int, mulOk i 69621 = true := fun i => by simp [mulOk]
  have hp1 : powOk 10 18 = true := by decide
  by_cases c1 : x ≤ 0 ∧ c ≤ 0 ∧ i < ns.length
  · obtain ⟨c1, c2, c3⟩ := c1
    have hcell : ∃ cell, ns[i.toNat]? = some cell := ⟨ns[i.toNat]'(by omega), List.getElem?_eq_getElem (by omega)⟩
    obtain ⟨cell, hcell⟩ := hcell
    have hi' : ∀ j : Nat, (ns.map D.int)[i.toNat]? = some (.int cell) := fun _ => by rw [List.getElem?_map, hcell]; rfl
    have hat : atD (ns.map D.int) i = some (.int cell) := by
      have := atD_pos (ns.map D.int) i.toNat (.int cell) (hi' 0)
      rwa [Int.toNat_of_nonneg hi] at this
    have c4 : ¬ (0 < x) := by omega
    by_cases c5 : (1000000000000000000 : Int) ≤ cell
    · have c6 : 0 < cell := by omega
      simp [c_law_draw, startT, hat, c1, c2, c3, c4, c5, c6, hm1, hm2, hm3, hp1, hs0, hdv, bin_mulI, bin_modI, bin_fdivI, bin_powI]
      exact ⟨_, _, ⟨rfl, rfl⟩, ⟨ns, _, _, _, _, rfl, by omega⟩, Int.fmod_nonneg_of_pos _ h0, Int.fmod_lt_of_pos _ h0⟩
    · simp [c_law_draw, startT, hat, c1, c2, c3, c4, c5, hm1, hm2, hm3, hp1, hs0, hdv, bin_mulI, bin_modI, bin_fdivI, bin_powI]
      exact ⟨_, _, ⟨rfl, rfl⟩, ⟨ns, _, _, _, _, rfl, by omega⟩, Int.fmod_nonneg_of_pos _ h0, Int.fmod_lt_of_pos _ h0⟩
  · have hb : (if x ≤ 0 then if c ≤ 0 then decide (i < ns.length) else false else false) = false := by
      by_cases d1 : x ≤ 0
      · by_cases d2 : c ≤ 0
        · have : ¬ i < ns.length := fun z => c1 ⟨d1, d2, z⟩
          simp [d1, d2, this]
        · simp [d1, d2]
      · simp [d1]
    by_cases c5 : 0 < x
    · have c6 : ¬ x ≤ 0 := by omega
      simp [c_law_draw, startT, c5, c6, hm1, hm2, hm3, hp1, hs0, hdv, bin_mulI, bin_modI, bin_fdivI, bin_powI]
      exact ⟨_, _, ⟨rfl, rfl⟩, ⟨ns, _, _, _, _, rfl, by omega⟩, Int.fmod_nonneg_of_pos _ h0, Int.fmod_lt_of_pos _ h0⟩
    · have c6 : x ≤ 0 := by omega
      by_cases c7 : c ≤ 0
      · have c8 : ¬ i < ns.length := fun z => c1 ⟨c6, c7, z⟩
        simp [c_law_draw, startT, c5, c6, c7, c8, hm1, hm2, hm3, hp1, hs0, hdv, bin_mulI, bin_modI, bin_fdivI, bin_powI]
        exact ⟨_, _, ⟨rfl, rfl⟩, ⟨ns, _, _, _, _, rfl, by omega⟩, Int.fmod_nonneg_of_pos _ h0, Int.fmod_lt_of_pos _ h0⟩
      · simp [c_law_draw, startT, c5, c6, c7, hm1, hm2, hm3, hp1, hs0, hdv, bin_mulI, bin_modI, bin_fdivI, bin_powI]
        exact ⟨_, _, ⟨rfl, rfl⟩, ⟨ns, _, _, _, _, rfl, by omega⟩, Int.fmod_nonneg_of_pos _ h0, Int.fmod_lt_of_pos _ h0⟩
/-! ### _law_same of a value and itself -/
def SD : Nat → D → Prop
  | _, .non => True
  | _, .bl _ => True
  | _, .int _ => True
  | _, .str x => PyData.canLay0 (.str x) = true
  | n + 1, .tup ds => ds.length ≤ line ∧ ∀ d ∈ ds, SD n d
  | n + 1, .lst ds => ds.length ≤ line ∧ ∀ d ∈ ds, SD n d
  | _, _ => False
theorem small_len {n : Nat} (h : n ≤ line) : smallI (n : Int) = true := by
  unfold line at h
  simp only [smallI, Bool.and_eq_true, decide_eq_true_eq]
  omega
theorem range_get (lo : Int) (n i : Nat) (d : D) (h : (rangeD lo n)[i]? = some d) : d = .int (lo + i) ∧ i < n := by
  unfold rangeD at h
  rw [List.getElem?_map] at h
  by_cases hi : i < n
  · rw [List.getElem?_range hi] at h
    simp at h
    exact ⟨h.symm, hi⟩
  · rw [List.getElem?_eq_none (by simpa using hi)] at h; cases h
theorem range_len (lo : Int) (n : Nat) : (rangeD lo n).length = n := by simp [rangeD]
theorem same_refl {fs : List Def} (hl : lookD fs "_law_same" = some c_law_same) (h : List (List D)) : ∀ (n : Nat) (d : D), SD n d → ∀ k, n ≤ k → Phi fs (k + 1) "_law_same" [d, d] h = .ok (.val (.bl true)) h := by
  intro n
  induction n with
  | zero =>
    intro d hd k _
    rw [Phi_run hl rfl]
    cases d with
    | non => simp [c_law_same, startT, isTy]
    | bl b => simp [c_law_same, startT, isTy, D.isNon]
    | int i => simp [c_law_same, startT, isTy, D.isNon]
    | str x =>
      have hd : PyData.canLay0 (.str x) = true := hd
      simp [c_law_same, startT, isTy, D.isNon, hd]
    | _ => exact hd.elim
  | succ n ih =>
    intro d hd k hk
    obtain ⟨k, rfl⟩ : ∃ k', k = k' + 1 := ⟨k - 1, by omega⟩
    have seq : ∀ (ds : List D) (q : D), (q = .tup ds ∨ q = .lst ds) → ds.length ≤ line → (∀ d ∈ ds, SD n d) → Phi fs (k + 1 + 1) "_law_same" [q, q] h = .ok (.val (.bl true)) h := by
      intro ds q hq hlen hall
      rw [Phi_run hl rfl]
      have loop := forR_inv (Φ := Phi fs (k + 1)) (t := .name 2) (b := .cons (.ite (.not (.call "_law_same" (.cons (.idx (.var 0) (.var 2)) (.cons (.idx (.var 1) (.var 2)) .nil)))) (.cons (.ret (.cst (.bl false))) .nil) .nil) .nil)
        (rangeD 0 ds.length) (fun _ s => ∃ x, s = ⟨[some (.val q), some (.val q), x], h⟩) (fun r => ∃ x, r = .next ⟨[some (.val q), some (.val q), x], h⟩) (fun i d s e hI => by
          obtain ⟨x, rfl⟩ := hI
          obtain ⟨rfl, hi⟩ := range_get _ _ _ _ e
          have hget : ds[i]? = some ds[i] := List.getElem?_eq_getElem hi
          have hs := ih ds[i] (hall _ (List.getElem_mem hi)) k (by omega)
          have hat : atD ds ((i : Nat) : Int) = some ds[i] := by rw [atD_nat]; exact hget
          rcases hq with rfl | rfl <;> simp [bindT, hat, hs]) (fun s hI => by obtain ⟨x, rfl⟩ := hI; exact ⟨x, rfl⟩) ⟨[some (.val q), some (.val q), none], h⟩ ⟨none, rfl⟩
      obtain ⟨x, e⟩ := loop
      have hsm := small_len hlen
      rcases hq with rfl | rfl <;> simp [c_law_same, startT, isTy, hsm, e]
    cases d with
    | tup ds => exact seq ds _ (.inl rfl) hd.1 hd.2
    | lst ds => exact seq ds _ (.inr rfl) hd.1 hd.2
    | non => rw [Phi_run hl rfl]; simp [c_law_same, startT, isTy]
    | bl b => rw [Phi_run hl rfl]; simp [c_law_same, startT, isTy, D.isNon]
    | int i => rw [Phi_run hl rfl]; simp [c_law_same, startT, isTy, D.isNon]
    | str x =>
      have hd : PyData.canLay0 (.str x) = true := hd
      rw [Phi_run hl rfl]
      simp [c_law_same, startT, isTy, D.isNon, hd]
    | ref k => exact hd.elim
/-! ### _law_gcd -/
theorem abs_if (i : Int) : (if i < 0 then -i else i) = (i.natAbs : Int) := by split <;> omega
theorem fmod_nat (a b : Nat) : ((a : Int)).fmod (b : Int) = ((a % b : Nat) : Int) := by
  rw [Int.fmod_eq_emod_of_nonneg _ (by omega)]; omega
theorem half_mod {a b : Nat} (h0 : 0 < b) (h : b < a) : 2 * (a % b) ≤ a := by
  have h1 := Nat.mod_lt a h0
  have h2 := Nat.div_add_mod a b
  have h3 : 1 ≤ a / b := (Nat.one_le_div_iff h0).mpr (Nat.le_of_lt h)
  have h4 : b * 1 ≤ b * (a / b) := Nat.mul_le_mul_left b h3
  omega
theorem lgcd1 {fs : List Def} {k : Nat} (hl : lookD fs "_law_gcd" = some c_law_gcd) (x y : Int) (hy : y.natAbs.log2 < 1000000) (h : List (List D)) :
    Phi fs (k + 1) "_law_gcd" [.int x, .int y] h = .ok (.val (.int (Nat.gcd x.natAbs y.natAbs))) h := by
  rw [Phi_run hl rfl]
  obtain ⟨a0, ha0⟩ : ∃ a0, x.natAbs = a0 := ⟨_, rfl⟩
  obtain ⟨b0, hb0⟩ : ∃ b0, y.natAbs = b0 := ⟨_, rfl⟩
  rw [hb0] at hy
  obtain ⟨bits, hbits⟩ : ∃ bits : Nat, (if b0 = 0 then (0 : Int) else b0.log2 + 1) = bits ∧ b0 < 2 ^ bits ∧ bits ≤ 1000000 := by
    by_cases z : b0 = 0
    · subst z; exact ⟨0, by simp, by simp, by omega⟩
    · refine ⟨b0.log2 + 1, ?_, Nat.lt_log2_self, by omega⟩
      rw [if_neg z]
      simp
  obtain ⟨hb1, hb2, hb3⟩ := hbits
  have hsm : smallI (4000 + 2 * (bits : Int)) = true := by
    simp only [smallI, Bool.and_eq_true, decide_eq_true_eq]; omega
  have hto : (4000 + 2 * (bits : Int)).toNat = 2 * (2000 + bits) := by omega
  have hm : mulOk 2 (bits : Int) = true := by simp [mulOk]
  have loop := forR_inv (Φ := Phi fs k) (t := .name 4) (b := .cons (.ite (.cmp (.var 3) (.cons .eq (.cst (.int 0)) .nil)) (.cons .brk .nil) .nil) (.cons (.par 2 3 (.var 3) (.bin .mod (.blt .int (.cons (.var 2) .nil)) (.var 3))) .nil))
    (rangeD 0 (2 * (2000 + bits))) (fun i s => ∃ (a b : Nat) (z : Option Sl), s = ⟨[some (.val (.int x)), some (.val (.int y)), some (.val (.int a)), some (.val (.int b)), z], h⟩ ∧ Nat.gcd a b = Nat.gcd a0 b0 ∧ (i % 2 = 0 → b * 2 ^ (i / 2) ≤ b0) ∧ (i % 2 = 1 → b < a ∧ a * 2 ^ (i / 2) ≤ b0))
    (fun r => ∃ z b, r = .next ⟨[some (.val (.int x)), some (.val (.int y)), some (.val (.int (Nat.gcd a0 b0))), b, z], h⟩) (fun i d s e hI => by
      obtain ⟨a, b, z, rfl, hg, hev, hod⟩ := hI
      simp only [bindT]
      by_cases hb : b = 0
      · subst hb
        rw [Nat.gcd_zero_right] at hg
        subst hg
        simp
      · have hb' : ¬ ((b : Int) = 0) := by omega
        simp [hb', hb, bin_modI, fmod_nat]
        refine ⟨b, a % b, ⟨rfl, rfl⟩, ?_, fun hi => ?_, fun hi => ?_⟩
        · rw [← hg, Nat.gcd_comm b, ← Nat.gcd_rec, Nat.gcd_comm]
        · have h1 := hod (by omega)
          have h2 := half_mod (Nat.pos_of_ne_zero hb) h1.1
          have h3 : (i + 1) / 2 = i / 2 + 1 := by omega
          rw [h3, Nat.pow_succ]
          have h4 : (a % b) * 2 * 2 ^ (i / 2) ≤ a * 2 ^ (i / 2) := Nat.mul_le_mul_right _ (by omega)
          have h5 : (a % b) * (2 ^ (i / 2) * 2) = (a % b) * 2 * 2 ^ (i / 2) := by rw [Nat.mul_comm (2 ^ (i / 2)) 2, Nat.mul_assoc]
          rw [h5]; exact Nat.le_trans h4 h1.2
        · have h1 := hev (by omega)
          have h3 : (i + 1) / 2 = i / 2 := by omega
          rw [h3]
          exact ⟨Nat.mod_lt _ (Nat.pos_of_ne_zero hb), h1⟩) (fun s hI => by
      obtain ⟨a, b, z, rfl, hg, hev, hod⟩ := hI
      rw [range_len] at hev
      have h1 := hev (by omega)
      have h2 : 2 * (2000 + bits) / 2 = 2000 + bits := by omega
      rw [h2] at h1
      have hb : b = 0 := by
        rcases Nat.eq_zero_or_pos b with z | z
        · exact z
        · have h3 : 1 * 2 ^ (2000 + bits) ≤ b * 2 ^ (2000 + bits) := Nat.mul_le_mul_right _ z
          have h4 : 2 ^ bits ≤ 2 ^ (2000 + bits) := Nat.pow_le_pow_right (by omega) (by omega)
          omega
      subst hb
      rw [Nat.gcd_zero_right] at hg
      subst hg
      exact ⟨_, _, rfl⟩)
    ⟨[some (.val (.int x)), some (.val (.int y)), some (.val (.int a0)), some (.val (.int b0)), none], h⟩ ⟨a0, b0, none, rfl, rfl, fun _ => by simp, fun z => by omega⟩
  obtain ⟨z, b, e⟩ := loop
  simp only [ha0, hb0]
  simp [c_law_gcd, startT, abs_if, ha0, hb0, hb1, hm, bin_mulI, hsm, hto, e]
/-! ### the small draws -/
theorem sign1 {fs : List Def} {k : Nat} (hd : lookD fs "_law_draw" = some c_law_draw) (hl : lookD fs "_law_sign" = some c_law_sign) {p : List D} (hp : PoolOk p) (n : Int) :
    ∃ v p', Phi fs (k + 2) "_law_sign" [.ref 0, .int n] [p] = .ok (.val (.int v)) [p'] ∧ PoolOk p' ∧ (v = n ∨ v = -n) := by
  obtain ⟨u, p', e, hp', u0, u1⟩ := draw1 (k := k) hd hp (size := 2) (by decide) (by decide)
  refine ⟨n * (1 - 2 * u), p', ?_, hp', ?_⟩
  · rw [Phi_run hl rfl]
    have hm : mulOk 2 u = true := by simp [mulOk]
    have hm2 : mulOk n (1 - 2 * u) = true := by
      simp only [mulOk, Bool.or_eq_true, decide_eq_true_eq]
      exact .inl (.inr (by omega))
    simp [c_law_sign, startT, e, bin_mulI, hm, hm2]
  · have : u = 0 ∨ u = 1 := by omega
    rcases this with rfl | rfl
    · left; omega
    · right; omega
theorem some1 {fs : List Def} {k : Nat} (hd : lookD fs "_law_draw" = some c_law_draw) (hl : lookD fs "_law_some" = some c_law_some) {p : List D} (hp : PoolOk p) :
    ∃ v p', Phi fs (k + 2) "_law_some" [.ref 0] [p] = .ok (.val (.int v)) [p'] ∧ PoolOk p' ∧ 0 ≤ v ∧ v < 10000000000 := by
  obtain ⟨u, p1, e, hp1, u0, u1⟩ := draw1 (k := k) hd hp (size := 8) (by decide) (by decide)
  have hw1 : powOk 10 6 = true := by decide
  have hw2 : powOk 10 10 = true := by decide
  rw [Phi_run hl rfl]
  by_cases c1 : u < 4
  · obtain ⟨v, p2, e2, hp2, v0, v1⟩ := draw1 (k := k) hd hp1 (size := 40) (by decide) (by decide)
    exact ⟨v, p2, by simp [c_law_some, startT, e, c1, e2], hp2, v0, by omega⟩
  by_cases c2 : u < 6
  · obtain ⟨v, p2, e2, hp2, v0, v1⟩ := draw1 (k := k) hd hp1 (size := 3000) (by decide) (by decide)
    exact ⟨v, p2, by simp [c_law_some, startT, e, c1, c2, e2], hp2, v0, by omega⟩
  by_cases c3 : u = 6
  · obtain ⟨v, p2, e2, hp2, v0, v1⟩ := draw1 (k := k) hd hp1 (size := 1000000) (by decide) (by decide)
    exact ⟨v, p2, by simp [c_law_some, startT, e, c3, e2, hw1, bin_powI], hp2, v0, by omega⟩
  · obtain ⟨v, p2, e2, hp2, v0, v1⟩ := draw1 (k := k) hd hp1 (size := 10000000000) (by decide) (by decide)
    exact ⟨v, p2, by simp [c_law_some, startT, e, c1, c2, c3, e2, hw2, bin_powI], hp2, v0, by omega⟩
theorem huge1 {fs : List Def} {k : Nat} (hd : lookD fs "_law_draw" = some c_law_draw) (hs : lookD fs "_law_sign" = some c_law_sign) (hl : lookD fs "_law_huge" = some c_law_huge) {p : List D} (hp : PoolOk p) :
    ∃ v p', Phi fs (k + 3) "_law_huge" [.ref 0] [p] = .ok (.val (.int v)) [p'] ∧ PoolOk p' ∧ -(10 ^ 41) < v ∧ v < 10 ^ 41 := by
  obtain ⟨u, p1, e1, hp1, u0, u1⟩ := draw1 (k := k + 1) hd hp (size := 100000000000000000000) (by decide) (by decide)
  obtain ⟨v, p2, e2, hp2, v0, v1⟩ := draw1 (k := k + 1) hd hp1 (size := 100000000000000000000) (by decide) (by decide)
  obtain ⟨w, p3, e3, hp3, w0, w1⟩ := draw1 (k := k + 1) hd hp2 (size := 100000000000000000000) (by decide) (by decide)
  obtain ⟨z, p4, e4, hp4, hz⟩ := sign1 (k := k) hd hs hp3 (u * v + w)
  have hw : powOk 10 20 = true := by decide
  have hm : mulOk u v = true := by
    simp only [mulOk, Bool.or_eq_true, decide_eq_true_eq]
    right
    have h1 : u.natAbs.log2 < 70 := by
      by_cases z : u.natAbs = 0
      · rw [z]; decide
      · exact (Nat.log2_lt z).mpr (by omega)
    have h2 : v.natAbs.log2 < 70 := by
      by_cases z : v.natAbs = 0
      · rw [z]; decide
      · exact (Nat.log2_lt z).mpr (by omega)
    omega
  refine ⟨z, p4, ?_, hp4, ?_⟩
  · rw [Phi_run hl rfl]
    simp [c_law_huge, startT, e1, e2, e3, e4, hw, hm, bin_powI, bin_mulI]
  · have h1 : 0 ≤ u * v := Int.mul_nonneg u0 v0
    have h2 : u * v ≤ 100000000000000000000 * 100000000000000000000 := Int.mul_le_mul (by omega) (by omega) v0 (by omega)
    rcases hz with rfl | rfl
    · constructor <;> omega
    · constructor <;> omega
/-! ### _law_plain -/
def PL : Nat → D → Prop
  | _, .str _ => True
  | _, .int _ => True
  | n + 1, .tup ds => ds.length ≤ line ∧ ∀ d ∈ ds, PL n d
  | _, _ => False
theorem mem_trues : ∀ n : Nat, isMem (.bl false) (List.replicate n (.bl true)) = false
  | 0 => rfl
  | n + 1 => by
    rw [List.replicate_succ]
    have := mem_trues n
    unfold isMem at this ⊢
    rw [List.any_cons, this]
    simp
theorem dats_trues (m : Nat) : ∀ n : Nat, dats m (List.replicate n (.bl true)) = true
  | 0 => by simp
  | n + 1 => by rw [List.replicate_succ]; simp [dats_trues m n]
theorem plain1 {fs : List Def} (hl : lookD fs "_law_plain" = some c_law_plain) (h : List (List D)) : ∀ (n : Nat) (d : D), PL n d → ∀ k, n ≤ k → Phi fs (k + 1) "_law_plain" [d] h = .ok (.val (.bl true)) h := by
  intro n
  induction n with
  | zero =>
    intro d hd k _
    rw [Phi_run hl rfl]
    cases d with
    | int i => simp [c_law_plain, startT, isTy]
    | str x => simp [c_law_plain, startT, isTy]
    | _ => exact hd.elim
  | succ n ih =>
    intro d hd k hk
    obtain ⟨k, rfl⟩ : ∃ k', k = k' + 1 := ⟨k - 1, by omega⟩
    rw [Phi_run hl rfl]
    cases d with
    | int i => simp [c_law_plain, startT, isTy]
    | str x => simp [c_law_plain, startT, isTy]
    | tup ds =>
      obtain ⟨hlen, hall⟩ := hd
      have lc := lcR_fm (Φ := Phi fs (k + 1)) (i := 1) (cond := .none) (elt := .call "_law_plain" (.cons (.var 1) .nil)) (fun _ => some (.bl true)) ds [some (.val (.tup ds)), none] h hlen (fun d hd x => by
        have e := ih d (hall d hd) k (by omega)
        simp [turnL, wipeT, MT.ids, bindT, e])
      have e1 : ds.filterMap (fun _ => some (D.bl true)) = List.replicate ds.length (.bl true) := by
        simp [List.filterMap_eq_map, List.map_const']
      rw [e1] at lc
      simp [c_law_plain, startT, isTy, lc, cmpD, dats_trues, mem_trues]
    | _ => exact hd.elim
/-! ### _law_touched: the same shape, other ints -/
mutual
def shp : D → D → Prop
  | .int _, .int _ => True
  | .str x, .str y => x = y
  | .tup ds, .tup es => shps ds es
  | _, _ => False
def shps : List D → List D → Prop
  | [], [] => True
  | d :: ds, e :: es => shp d e ∧ shps ds es
  | _, _ => False
end
/-- ints below a bound -/
def bnd (B : Nat) : Nat → D → Prop
  | _, .int i => i.natAbs < B
  | n + 1, .tup ds => ∀ d ∈ ds, bnd B n d
  | _, _ => True
theorem shps_refl {n : Nat} (ih : ∀ d, PL n d → shp d d) : ∀ ds : List D, (∀ d ∈ ds, PL n d) → shps ds ds
  | [], _ => by unfold shps; trivial
  | d :: ds, h => by unfold shps; exact ⟨ih d (h d List.mem_cons_self), shps_refl ih ds fun x hx => h x (List.mem_cons_of_mem _ hx)⟩
theorem shp_refl : ∀ (n : Nat) (d : D), PL n d → shp d d := by
  intro n
  induction n with
  | zero =>
    intro d hd
    cases d with
    | int i => unfold shp; trivial
    | str x => unfold shp; rfl
    | _ => exact hd.elim
  | succ n ih =>
    intro d hd
    cases d with
    | int i => unfold shp; trivial
    | str x => unfold shp; rfl
    | tup ds => unfold shp; exact shps_refl ih ds hd.2
    | _ => exact hd.elim
theorem shps_set {n : Nat} : ∀ (ds : List D) (i : Nat) (d e : D), (∀ d ∈ ds, PL n d) → ds[i]? = some d → shp d e → shps ds (ds.set i e)
  | [], i, d, e, h, hi, hs => by simp at hi
  | x :: ds, 0, d, e, h, hi, hs => by
    simp at hi; subst hi
    rw [List.set_cons_zero]
    unfold shps
    exact ⟨hs, shps_refl (shp_refl n) ds fun x hx => h x (List.mem_cons_of_mem _ hx)⟩
  | x :: ds, i + 1, d, e, h, hi, hs => by
    rw [List.set_cons_succ]
    unfold shps
    exact ⟨shp_refl n x (h x List.mem_cons_self), shps_set ds i d e (fun x hx => h x (List.mem_cons_of_mem _ hx)) (by simpa using hi) hs⟩
theorem bnd_mono {B C : Nat} (h : B ≤ C) : ∀ (n : Nat) (d : D), bnd B n d → bnd C n d := by
  intro n
  induction n with
  | zero => intro d hd; cases d <;> first | exact Nat.lt_of_lt_of_le hd h | trivial
  | succ n ih =>
    intro d hd
    cases d with
    | int i => exact Nat.lt_of_lt_of_le hd h
    | tup ds => exact fun x hx => ih x (hd x hx)
    | _ => trivial
theorem set_cut (ds : List D) (i : Nat) (e : D) (h : i < ds.length) : ds.take i ++ [e] ++ ds.drop (i + 1) = ds.set i e := by
  rw [List.set_eq_take_append_cons_drop, if_pos h]
  simp
theorem touched1 {fs : List Def} (hd : lookD fs "_law_draw" = some c_law_draw) (hl : lookD fs "_law_touched" = some c_law_touched) {B : Nat} : ∀ (n : Nat) (d : D), PL n d → bnd B n d → ∀ (k : Nat) (p : List D), n ≤ k → PoolOk p →
    ∃ d' p', Phi fs (k + 2) "_law_touched" [.ref 0, d] [p] = .ok (.val d') [p'] ∧ PoolOk p' ∧ shp d d' ∧ PL n d' ∧ bnd (3 * B + 1000000000000) n d' := by
  intro n
  have base : ∀ (n k : Nat) (p : List D) (i : Int), i.natAbs < B → PoolOk p → ∃ d' p', Phi fs (k + 2) "_law_touched" [.ref 0, .int i] [p] = .ok (.val d') [p'] ∧ PoolOk p' ∧ shp (.int i) d' ∧ PL n d' ∧ bnd (3 * B + 1000000000000) n d' := by
    intro n k p i hi hp
    obtain ⟨u, p1, e, hp1, u0, u1⟩ := draw1 (k := k) hd hp (size := 7) (by decide) (by decide)
    have hw : powOk 10 12 = true := by decide
    have hm : mulOk 2 i = true := by simp [mulOk]
    have key : ∀ z : Int, atD [D.int 1, .int (0 - 1), .int 2, .int (0 - i), .int i, .int (0 - 2 * i), .int (10 ^ 12)] u = some (.int z) → (i + z).natAbs < 3 * B + 1000000000000 → ∃ d' p', Phi fs (k + 2) "_law_touched" [.ref 0, .int i] [p] = .ok (.val d') [p'] ∧ PoolOk p' ∧ shp (.int i) d' ∧ PL n d' ∧ bnd (3 * B + 1000000000000) n d' := by
      intro z hz hb
      refine ⟨.int (i + z), p1, ?_, hp1, by unfold shp; trivial, by cases n <;> trivial, by cases n <;> exact hb⟩
      rw [Phi_run hl rfl]
      have hz' : atD [D.int 1, .int (-1), .int 2, .int (-i), .int i, .int (-(2 * i)), .int 1000000000000] u = some (.int z) := by
        have : ((10 : Int) ^ 12) = 1000000000000 := by decide
        rw [this] at hz
        simpa using hz
      simp [c_law_touched, startT, isTy, e, hw, hm, bin_powI, bin_mulI, hz']
    have : u = 0 ∨ u = 1 ∨ u = 2 ∨ u = 3 ∨ u = 4 ∨ u = 5 ∨ u = 6 := by omega
    rcases this with rfl | rfl | rfl | rfl | rfl | rfl | rfl
    · exact key 1 (by simp) (by omega)
    · exact key (0 - 1) (by simp) (by omega)
    · exact key 2 (by simp) (by omega)
    · exact key (0 - i) (by simp) (by omega)
    · exact key i (by simp) (by omega)
    · exact key (0 - 2 * i) (by simp) (by omega)
    · exact key (10 ^ 12) (by simp) (by omega)
  have strC : ∀ (n k : Nat) (p : List D) (x : Str), PoolOk p → ∃ d' p', Phi fs (k + 2) "_law_touched" [.ref 0, .str x] [p] = .ok (.val d') [p'] ∧ PoolOk p' ∧ shp (.str x) d' ∧ PL n d' ∧ bnd (3 * B + 1000000000000) n d' := by
    intro n k p x hp
    refine ⟨.str x, p, ?_, hp, by unfold shp; rfl, by cases n <;> trivial, by cases n <;> trivial⟩
    rw [Phi_run hl rfl]
    simp [c_law_touched, startT, isTy]
  induction n with
  | zero =>
    intro d hpl hb k p hk hp
    cases d with
    | int i => exact base 0 k p i hb hp
    | str x => exact strC 0 k p x hp
    | _ => exact hpl.elim
  | succ n ih =>
    intro d hpl hb k p hk hp
    cases d with
    | int i => exact base (n + 1) k p i hb hp
    | str x => exact strC (n + 1) k p x hp
    | tup ds =>
      obtain ⟨hlen, hall⟩ := hpl
      by_cases h0 : ds.length = 0
      · have : ds = [] := List.length_eq_zero_iff.mp h0
        subst this
        refine ⟨.tup [], p, ?_, hp, by unfold shp shps; trivial, ⟨by simp, by simp⟩, fun x hx => by simp at hx⟩
        rw [Phi_run hl rfl]
        simp [c_law_touched, startT, isTy]
      · have hl62 : ((ds.length : Int)).natAbs.log2 < 9000 := by
          have : ds.length < 2 ^ 9000 := Nat.lt_of_le_of_lt hlen (by unfold line; exact Nat.lt_of_lt_of_le (by decide : 16777216 < 2 ^ 25) (Nat.pow_le_pow_right (by decide) (by decide)))
          have z : ((ds.length : Int)).natAbs = ds.length := by simp
          rw [z]
          exact (Nat.log2_lt h0).mpr this
        obtain ⟨u, p1, e, hp1, u0, u1⟩ := draw1 (k := k) hd hp (size := ds.length) (by omega) hl62
        obtain ⟨i, rfl⟩ : ∃ i : Nat, u = i := ⟨u.toNat, by omega⟩
        have hi : i < ds.length := by omega
        obtain ⟨k', rfl⟩ : ∃ k', k = k' + 1 := ⟨k - 1, by omega⟩
        obtain ⟨d', p2, e2, hp2, hs, hpl', hb'⟩ := ih ds[i] (hall _ (List.getElem_mem hi)) (hb _ (List.getElem_mem hi)) k' p1 (by omega) hp1
        have hat : atD ds ((i : Nat) : Int) = some ds[i] := by rw [atD_nat]; exact List.getElem?_eq_getElem hi
        have c1 : cutD ds none (some ((i : Nat) : Int)) = ds.take i := by
          unfold cutD sEnd
          have : ¬ (((i : Nat) : Int) < 0) := by omega
          have h3 : min i ds.length = i := by omega
          simp only [if_neg this, Int.toNat_natCast, h3, List.drop_zero, Nat.sub_zero]
        have c2 : cutD ds (some (((i : Nat) : Int) + 1)) none = ds.drop (i + 1) := by
          unfold cutD sEnd
          have : ¬ (((i : Nat) : Int) + 1 < 0) := by omega
          have h2 : (((i : Nat) : Int) + 1).toNat = i + 1 := by omega
          have h3 : min (i + 1) ds.length = i + 1 := by omega
          simp only [if_neg this, h2, h3]
          rw [List.take_of_length_le (by rw [List.length_drop]; omega)]
        refine ⟨.tup (ds.set i d'), p2, ?_, hp2, ?_, ⟨by rw [List.length_set]; exact hlen, fun x hx => ?_⟩, fun x hx => ?_⟩
        · rw [Phi_run hl rfl]
          have hpos : 0 < ds.length := Nat.pos_of_ne_zero h0
          have l1 : (ds.take i).length + 1 ≤ line := by rw [List.length_take]; omega
          have l2 : (ds.take i ++ [d']).length + (ds.drop (i + 1)).length ≤ line := by simp; omega
          have a1 : binD .add (.tup (ds.take i)) (.tup [d']) = some (.val (.tup (ds.take i ++ [d']))) := bin_addT (by simpa using l1)
          have a2 : binD .add (.tup (ds.take i ++ [d'])) (.tup (ds.drop (i + 1))) = some (.val (.tup (ds.set i d'))) := by
            rw [bin_addT l2, set_cut ds i d' hi]
          simp [c_law_touched, startT, isTy, hpos, e, hat, e2, c1, c2, a1]
          rw [a2]
          rfl
        · unfold shp; exact shps_set ds i _ d' hall (List.getElem?_eq_getElem hi) hs
        · rcases List.mem_or_eq_of_mem_set hx with z | z
          · exact hall x z
          · subst z; exact hpl'
        · rcases List.mem_or_eq_of_mem_set hx with z | z
          · exact bnd_mono (by omega) n x (hb x z)
          · subst z; exact hb'
    | _ => exact hpl.elim
end PI

namespace PI
open PySem L2
theorem ofS_inj {a b : String} (h : Str.ofString a = Str.ofString b) : a = b := by
  rw [Str.ofString_eq_toList, Str.ofString_eq_toList] at h
  have h1 : a.toList.map Char.toNat = b.toList.map Char.toNat := by
    have := congrArg (fun s : Str => s.cps.toList) h
    simpa using this
  have h2 : a.toList = b.toList := List.map_inj_right (f := Char.toNat) (fun x y e => Char.toNat_inj.mp e) |>.mp h1
  exact String.toList_inj.mp h2
@[simp] theorem ofS_beq (a b : String) : (Str.ofString a == Str.ofString b) = (a == b) := by
  by_cases h : a = b
  · subst h; simp
  · have : Str.ofString a ≠ Str.ofString b := fun z => h (ofS_inj z)
    rw [beq_eq_false_iff_ne.mpr this, beq_eq_false_iff_ne.mpr h]
@[simp] theorem ofS_eq (a b : String) : (Str.ofString a = Str.ofString b) = (a = b) := by
  apply propext
  constructor
  · exact ofS_inj
  · intro h; rw [h]
example : (("line" : Str) == ("off" : Str)) = false := by simp
example : (("line" : Str) == ("line" : Str)) = true := by simp
end PI
namespace PI
open PySem L2
@[simp] theorem canLay_ofS (a : String) : PyData.canLay0 (.str (Str.ofString a)) = true := by
  rw [PyData.canLay0, Str.ofString_eq_toList]
  simp only [PyData.strOk]
  rw [Array.all_eq_true']
  intro x hx
  simp at hx
  obtain ⟨c, _, rfl⟩ := hx
  have := c.valid
  simp only [decide_eq_true_eq]
  rcases this with z | z
  · have : c.toNat < 0xd800 := z
    omega
  · have : c.toNat < 0x110000 := z.2
    omega
end PI
namespace PI
open PySem L2
@[simp] theorem cmp_inT (d : D) (ds : List D) : cmpD .isin d (.tup ds) = if dat 60 d && dats 60 ds then some (isMem d ds) else none := by cases d <;> rfl
@[simp] theorem cmp_inL (d : D) (ds : List D) : cmpD .isin d (.lst ds) = if dat 60 d && dats 60 ds then some (isMem d ds) else none := by cases d <;> rfl
@[simp] theorem cmp_ninT (d : D) (ds : List D) : cmpD .notin d (.tup ds) = if dat 60 d && dats 60 ds then some (!isMem d ds) else none := by cases d <;> rfl
@[simp] theorem cmp_ninL (d : D) (ds : List D) : cmpD .notin d (.lst ds) = if dat 60 d && dats 60 ds then some (!isMem d ds) else none := by cases d <;> rfl
@[simp] theorem isMem_nil (d : D) : isMem d [] = false := by rfl
@[simp] theorem isMem_cons (d e : D) (ds : List D) : isMem d (e :: ds) = (deq e d || isMem d ds) := by rfl
@[simp high] theorem deq_int' (i j : Int) : deq (.int i) (.int j) = decide (i = j) := by rw [deq_int]; rfl
end PI
namespace PI
open PySem L2
/-- for, by cases of a turn -/
theorem forR_loop {Φ : Fns} {t : MT} {b : MSs} (ds : List D) (I : Nat → S → Prop) (Q : R → Prop)
    (h : ∀ (i : Nat) (d : D) (s : S), ds[i]? = some d → I i s → ∃ s1, bindT t d s = some s1 ∧ ((∃ s2, exs Φ b s1 = .next s2 ∧ I (i + 1) s2) ∨ (∃ s2, exs Φ b s1 = .cnt s2 ∧ I (i + 1) s2) ∨ (∃ s2, exs Φ b s1 = .brk s2 ∧ Q (.next s2)) ∨ ∃ rv s2, exs Φ b s1 = .ret rv s2 ∧ Q (.ret rv s2)))
    (hd : ∀ s, I ds.length s → Q (.next s)) (s : S) (hs : I 0 s) : Q (forR Φ t b ds s) := by
  refine forR_inv ds I Q (fun i d s e hI => ?_) hd s hs
  obtain ⟨s1, e1, hh⟩ := h i d s e hI
  rw [e1]
  dsimp only
  rcases hh with ⟨s2, e2, q⟩ | ⟨s2, e2, q⟩ | ⟨s2, e2, q⟩ | ⟨rv, s2, e2, q⟩
  · rw [e2]; exact q
  · rw [e2]; exact q
  · rw [e2]; exact q
  · rw [e2]; exact q
/-- for whose turns all go on -/
theorem forR_all {Φ : Fns} {t : MT} {b : MSs} (ds : List D) (I : Nat → S → Prop)
    (h : ∀ (i : Nat) (d : D) (s : S), ds[i]? = some d → I i s → ∃ s1, bindT t d s = some s1 ∧ ∃ s2, exs Φ b s1 = .next s2 ∧ I (i + 1) s2)
    (s : S) (hs : I 0 s) : ∃ s', forR Φ t b ds s = .next s' ∧ I ds.length s' := by
  refine forR_loop ds I (fun r => ∃ s', r = .next s' ∧ I ds.length s') (fun i d s e hI => ?_) (fun s hI => ⟨s, rfl, hI⟩) s hs
  obtain ⟨s1, e1, s2, e2, q⟩ := h i d s e hI
  exact ⟨s1, e1, .inl ⟨s2, e2, q⟩⟩
mutual
theorem shps_len : ∀ (a b : List D), shps a b → a.length = b.length
  | [], [], _ => rfl
  | x :: a, y :: b, h => by unfold shps at h; rw [List.length_cons, List.length_cons, shps_len a b h.2]
  | [], _ :: _, h => by unfold shps at h; exact h.elim
  | _ :: _, [], h => by unfold shps at h; exact h.elim
end
end PI
namespace PI
open PySem L2
theorem ofS_len (a : String) : (Str.ofString a).length = a.length := by
  rw [Str.ofString_eq_toList]; simp [Str.length, String.length_toList]
theorem ofS_app (a b : String) : Str.ofString a ++ Str.ofString b = Str.ofString (a ++ b) := by
  rw [Str.ofString_eq_toList, Str.ofString_eq_toList, Str.ofString_eq_toList]
  show Str.append _ _ = _
  simp [Str.append]
theorem bin_addS (a b : String) (h : a.length + b.length ≤ line) : binD .add (.str (Str.ofString a)) (.str (Str.ofString b)) = some (.val (.str (Str.ofString (a ++ b)))) := by
  unfold binD; dsimp only; rw [ofS_len, ofS_len, if_pos h, ofS_app]
/-- the field of the error that is held -/
theorem smallD_str (a : String) (h : a.length ≤ 1000) : smallD (.str (Str.ofString a)) = true := by
  show decide ((Str.ofString a).length ≤ 1000) = true
  rw [ofS_len]; exact decide_eq_true h
end PI
namespace PI
open PySem L2
@[simp] theorem cmp_neT (a b : List D) : cmpD .ne (.tup a) (.tup b) = if dats 59 a && dats 59 b then some (!deqs a b) else none := by rfl
@[simp] theorem cmp_eqT (a b : List D) : cmpD .eq (.tup a) (.tup b) = if dats 59 a && dats 59 b then some (deqs a b) else none := by rfl
@[simp] theorem cmp_neL (a b : List D) : cmpD .ne (.lst a) (.lst b) = if dats 59 a && dats 59 b then some (!deqs a b) else none := by rfl
@[simp] theorem cmp_eqL (a b : List D) : cmpD .eq (.lst a) (.lst b) = if dats 59 a && dats 59 b then some (deqs a b) else none := by rfl
end PI

namespace NT
open Lean.Grind
/-! ### primes -/
def Prime (p : Nat) : Prop := 2 ≤ p ∧ ∀ d, d ∣ p → d = 1 ∨ d = p
theorem Prime.two_le {p : Nat} (h : Prime p) : 2 ≤ p := h.1
theorem Prime.pos {p : Nat} (h : Prime p) : 0 < p := by have := h.1; omega
theorem Prime.gcd {p a : Nat} (h : Prime p) : Nat.gcd p a = 1 ∨ p ∣ a := by
  rcases h.2 _ (Nat.gcd_dvd_left p a) with e | e
  · exact .inl e
  · exact .inr (e ▸ Nat.gcd_dvd_right p a)
theorem Prime.dvd_mul {p a b : Nat} (h : Prime p) (d : p ∣ a * b) : p ∣ a ∨ p ∣ b := by
  rcases h.gcd (a := a) with e | e
  · exact .inr (Nat.Coprime.dvd_of_dvd_mul_left e d)
  · exact .inl e
theorem Prime.dvd_pow {p a : Nat} (h : Prime p) : ∀ {n : Nat}, p ∣ a ^ n → p ∣ a
  | 0, d => by
    have := Nat.le_of_dvd (by simp) d
    have := h.1
    simp at *; omega
  | n + 1, d => by
    rw [Nat.pow_succ] at d
    rcases h.dvd_mul d with e | e
    · exact Prime.dvd_pow h e
    · exact e
theorem Prime.eq {p q : Nat} (h : Prime p) (k : Prime q) (d : p ∣ q) : p = q := by
  rcases k.2 p d with e | e
  · have := h.1; omega
  · exact e
theorem exists_prime {n : Nat} (h : 2 ≤ n) : ∃ p, Prime p ∧ p ∣ n := by
  induction n using Nat.strongRecOn with
  | ind n ih =>
    by_cases hp : Prime n
    · exact ⟨n, hp, Nat.dvd_refl n⟩
    · have : ∃ d, d ∣ n ∧ d ≠ 1 ∧ d ≠ n := by
        apply Classical.byContradiction
        intro z
        apply hp
        refine ⟨h, fun d hd => ?_⟩
        apply Classical.byContradiction
        intro w
        exact z ⟨d, hd, fun e => w (.inl e), fun e => w (.inr e)⟩
      obtain ⟨d, h1, h2, h3⟩ := this
      have hd : d ≤ n := Nat.le_of_dvd (by omega) h1
      have h0 : d ≠ 0 := fun z => by subst z; rw [Nat.zero_dvd] at h1; omega
      obtain ⟨p, hp1, hp2⟩ := ih d (by omega) (by omega)
      exact ⟨p, hp1, Nat.dvd_trans hp2 h1⟩
theorem coprime_of_primes {a b : Nat} (h : ∀ p, Prime p → p ∣ a → p ∣ b → False) (h0 : a ≠ 0 ∨ b ≠ 0) : Nat.gcd a b = 1 := by
  apply Classical.byContradiction
  intro z
  have g0 : Nat.gcd a b ≠ 0 := fun e => by
    rcases h0 with w | w
    · exact w (Nat.eq_zero_of_gcd_eq_zero_left e)
    · exact w (Nat.eq_zero_of_gcd_eq_zero_right e)
  obtain ⟨p, hp, hd⟩ := exists_prime (n := Nat.gcd a b) (by omega)
  exact h p hp (Nat.dvd_trans hd (Nat.gcd_dvd_left a b)) (Nat.dvd_trans hd (Nat.gcd_dvd_right a b))
/-! ### lists -/
theorem perm_of_sub {α : Type} {l m : List α} (h1 : l.Nodup) (h2 : m.Nodup) (hs : l ⊆ m) (hl : m.length ≤ l.length) : l.Perm m := by
  classical
  rw [List.perm_ext_iff_of_nodup h1 h2]
  intro a
  refine ⟨fun h => hs h, fun h => ?_⟩
  apply Classical.byContradiction
  intro z
  have h3 : (a :: l).Nodup := List.nodup_cons.mpr ⟨z, h1⟩
  have h4 : (a :: l) ⊆ m := fun x hx => by
    rcases List.mem_cons.mp hx with e | e
    · rw [e]; exact h
    · exact hs e
  have := List.Nodup.length_le_of_subset h3 h4
  rw [List.length_cons] at this
  omega
theorem nodup_map {α β : Type} {f : α → β} : ∀ {l : List α}, l.Nodup → (∀ x ∈ l, ∀ y ∈ l, f x = f y → x = y) → (l.map f).Nodup
  | [], _, _ => by simp
  | a :: l, h, hf => by
    rw [List.nodup_cons] at h
    rw [List.map_cons, List.nodup_cons]
    refine ⟨fun z => ?_, nodup_map h.2 fun x hx y hy => hf x (List.mem_cons_of_mem _ hx) y (List.mem_cons_of_mem _ hy)⟩
    obtain ⟨b, hb, e⟩ := List.mem_map.mp z
    have := hf b (List.mem_cons_of_mem _ hb) a List.mem_cons_self e
    exact h.1 (this ▸ hb)
/-! ### powers -/
section
variable {R : Type} [CommRing R]
theorem pow_one' (a : R) : a ^ 1 = a := by rw [Semiring.pow_succ, Semiring.pow_zero, Semiring.one_mul]
theorem one_pow (n : Nat) : (1 : R) ^ n = 1 := by
  induction n with
  | zero => exact Semiring.pow_zero 1
  | succ n ih => rw [Semiring.pow_succ, ih, Semiring.mul_one]
theorem pow_add (a : R) (m n : Nat) : a ^ (m + n) = a ^ m * a ^ n := by
  induction n with
  | zero => rw [Nat.add_zero, Semiring.pow_zero, Semiring.mul_one]
  | succ n ih => rw [← Nat.add_assoc, Semiring.pow_succ, ih, Semiring.pow_succ, Semiring.mul_assoc]
theorem pow_mul (a : R) (m n : Nat) : a ^ (m * n) = (a ^ m) ^ n := by
  induction n with
  | zero => rw [Nat.mul_zero, Semiring.pow_zero, Semiring.pow_zero]
  | succ n ih => rw [Nat.mul_succ, pow_add, ih, Semiring.pow_succ]
theorem mul_pow (a b : R) (n : Nat) : (a * b) ^ n = a ^ n * b ^ n := by
  induction n with
  | zero => rw [Semiring.pow_zero, Semiring.pow_zero, Semiring.pow_zero, Semiring.mul_one]
  | succ n ih => rw [Semiring.pow_succ, ih, Semiring.pow_succ, Semiring.pow_succ]; grind
theorem pow_gcd (z : R) (m n : Nat) (h1 : z ^ m = 1) (h2 : z ^ n = 1) : z ^ (Nat.gcd m n) = 1 := by
  induction m, n using Nat.gcd.induction with
  | H0 n => rw [Nat.gcd_zero_left]; exact h2
  | H1 m n hm ih =>
    rw [Nat.gcd_rec]
    refine ih ?_ h1
    have e := Nat.div_add_mod n m
    rw [← e, pow_add, pow_mul, h1, one_pow, Semiring.one_mul] at h2
    exact h2
theorem pow_dvd {z : R} {m n : Nat} (h : m ∣ n) (h1 : z ^ m = 1) : z ^ n = 1 := by
  obtain ⟨k, rfl⟩ := h
  rw [pow_mul, h1, one_pow]
/-! ### monic polynomials, as functions -/
def Mon : Nat → (R → R) → Prop
  | 0, f => ∀ x, f x = 1
  | d + 1, f => ∃ (c : R) (g : R → R), Mon d g ∧ ∀ x, f x = c + x * g x
theorem Mon.add_low (a : R) : ∀ (d : Nat) (h k : R → R), Mon (d + 1) h → Mon d k → Mon (d + 1) (fun x => h x + a * k x)
  | 0, h, k, hh, hk => by
    obtain ⟨c, g, hg, e⟩ := hh
    refine ⟨c + a, g, hg, fun x => ?_⟩
    have := hk x
    have := e x
    grind
  | d + 1, h, k, hh, hk => by
    obtain ⟨c, g, hg, e⟩ := hh
    obtain ⟨c2, g2, hg2, e2⟩ := hk
    refine ⟨c + a * c2, fun x => g x + a * g2 x, Mon.add_low a d g g2 hg hg2, fun x => ?_⟩
    have := e x
    have := e2 x
    grind
theorem Mon.split : ∀ (d : Nat) (f : R → R), Mon (d + 1) f → ∀ a, ∃ g, Mon d g ∧ ∀ x, f x - f a = (x - a) * g x
  | 0, f, h, a => by
    obtain ⟨c, g, hg, e⟩ := h
    refine ⟨g, hg, fun x => ?_⟩
    have h1 := e x
    have h2 := e a
    have h3 := hg x
    have h4 := hg a
    grind
  | d + 1, f, h, a => by
    obtain ⟨c, g, hg, e⟩ := h
    obtain ⟨k, hk, ek⟩ := Mon.split d g hg a
    refine ⟨fun x => g x + a * k x, Mon.add_low a d g k hg hk, fun x => ?_⟩
    have h1 := e x
    have h2 := e a
    have h3 := ek x
    grind
variable (dom : ∀ a b : R, a * b = 0 → a = 0 ∨ b = 0) (h10 : (1 : R) ≠ 0)
include dom h10
theorem Mon.roots : ∀ (d : Nat) (f : R → R), Mon d f → ∀ L : List R, L.Nodup → (∀ x ∈ L, f x = 0) → L.length ≤ d
  | 0, f, h, L, nd, hL => by
    cases L with
    | nil => simp
    | cons a L =>
      have h1 := hL a List.mem_cons_self
      have h2 := h a
      exact absurd (h2.symm.trans h1) h10
  | d + 1, f, h, L, nd, hL => by
    cases L with
    | nil => simp
    | cons a L =>
      rw [List.nodup_cons] at nd
      obtain ⟨g, hg, e⟩ := Mon.split d f h a
      have := Mon.roots d g hg L nd.2 fun x hx => by
        have h1 := hL x (List.mem_cons_of_mem _ hx)
        have h2 := hL a List.mem_cons_self
        have h3 := e x
        rw [h1, h2] at h3
        have h4 : (x - a) * g x = 0 := by rw [← h3]; grind
        rcases dom _ _ h4 with z | z
        · exfalso
          have : x = a := by grind
          exact nd.1 (this ▸ hx)
        · exact z
      rw [List.length_cons]; omega
omit dom h10 in
theorem mon_pow : ∀ d : Nat, Mon d (fun x : R => x ^ d)
  | 0 => fun x => Semiring.pow_zero x
  | d + 1 => ⟨0, fun x => x ^ d, mon_pow d, fun x => by show x ^ (d + 1) = 0 + x * x ^ d; rw [Semiring.pow_succ]; grind⟩
theorem roots_pow (d : Nat) (hd : 1 ≤ d) (L : List R) (nd : L.Nodup) (h : ∀ x ∈ L, x ^ d = 1) : L.length ≤ d := by
  obtain ⟨d, rfl⟩ : ∃ e, d = e + 1 := ⟨d - 1, by omega⟩
  refine Mon.roots dom h10 (d + 1) (fun x => x ^ (d + 1) - 1) ⟨-1, fun x => x ^ d, mon_pow d, fun x => by show x ^ (d + 1) - 1 = _; rw [Semiring.pow_succ]; grind⟩ L nd fun x hx => ?_
  show x ^ (d + 1) - 1 = 0
  rw [h x hx]; grind
end
end NT

namespace NT
open Lean.Grind
section
variable {R : Type} [CommRing R]
def prodL : List R → R
  | [] => 1
  | a :: l => a * prodL l
theorem prodL_perm {l m : List R} (h : l.Perm m) : prodL l = prodL m := by
  induction h with
  | nil => rfl
  | cons a _ ih => simp only [prodL, ih]
  | swap a b l => simp only [prodL]; grind
  | trans _ _ h1 h2 => rw [h1, h2]
theorem prodL_map (a : R) : ∀ l : List R, prodL (l.map (a * ·)) = a ^ l.length * prodL l
  | [] => by simp only [List.map_nil, prodL, List.length_nil]; rw [Semiring.pow_zero]; grind
  | b :: l => by
    simp only [List.map_cons, prodL, List.length_cons]
    rw [prodL_map a l, Semiring.pow_succ]; grind
variable (dom : ∀ a b : R, a * b = 0 → a = 0 ∨ b = 0) (h10 : (1 : R) ≠ 0)
include dom h10
theorem prodL_ne : ∀ l : List R, (∀ x ∈ l, x ≠ 0) → prodL l ≠ 0
  | [], _ => h10
  | a :: l, h => fun z => by
    rcases dom _ _ z with e | e
    · exact h a List.mem_cons_self e
    · exact prodL_ne l (fun x hx => h x (List.mem_cons_of_mem _ hx)) e
omit h10 in
theorem mul_cancel {a b c : R} (ha : a ≠ 0) (h : a * b = a * c) : b = c := by
  have : a * (b - c) = 0 := by grind
  rcases dom _ _ this with e | e
  · exact absurd e ha
  · grind
theorem pow_ne {a : R} (ha : a ≠ 0) : ∀ n : Nat, a ^ n ≠ 0
  | 0 => by rw [Semiring.pow_zero]; exact h10
  | n + 1 => fun z => by
    rw [Semiring.pow_succ] at z
    rcases dom _ _ z with e | e
    · exact pow_ne ha n e
    · exact ha e
/-- each element of a finite list that is closed: its power by the length -/
theorem lagrange (L : List R) (nd : L.Nodup) (ne : ∀ x ∈ L, x ≠ 0) (cl : ∀ a ∈ L, ∀ b ∈ L, a * b ∈ L) (a : R) (ha : a ∈ L) : a ^ L.length = 1 := by
  have hp : (L.map (a * ·)).Perm L := perm_of_sub (nodup_map nd fun x _ y _ e => mul_cancel dom (ne a ha) e) nd (fun x hx => by
    obtain ⟨b, hb, rfl⟩ := List.mem_map.mp hx
    exact cl a ha b hb) (by rw [List.length_map]; exact Nat.le_refl _)
  have e := prodL_perm hp
  rw [prodL_map] at e
  have hn := prodL_ne dom h10 L ne
  refine mul_cancel dom hn ?_
  grind
theorem not_all (L : List R) (nd : L.Nodup) (d : Nat) (h1 : 1 ≤ d) (hd : d < L.length) : ∃ x ∈ L, x ^ d ≠ 1 := by
  apply Classical.byContradiction
  intro z
  have := roots_pow dom h10 d h1 L nd fun x hx => by
    apply Classical.byContradiction
    intro w
    exact z ⟨x, hx, w⟩
  omega
theorem pow_mem {L : List R} (one : (1 : R) ∈ L) (cl : ∀ a ∈ L, ∀ b ∈ L, a * b ∈ L) {a : R} (ha : a ∈ L) : ∀ n : Nat, a ^ n ∈ L
  | 0 => by rw [Semiring.pow_zero]; exact one
  | n + 1 => by rw [Semiring.pow_succ]; exact cl _ (pow_mem one cl ha n) _ ha
/-- the part of a number by a prime -/
theorem split_prime {r : Nat} (hr : Prime r) : ∀ {n : Nat}, n ≠ 0 → ∃ e m, n = r ^ e * m ∧ ¬ r ∣ m := by
  intro n
  induction n using Nat.strongRecOn with
  | ind n ih =>
    intro h0
    by_cases hd : r ∣ n
    · obtain ⟨k, rfl⟩ := hd
      have k0 : k ≠ 0 := fun z => by subst z; simp at h0
      have lt : k < r * k := by
        have := hr.1
        have : 2 * k ≤ r * k := Nat.mul_le_mul_right k hr.1
        omega
      obtain ⟨e, m, h1, h2⟩ := ih k lt k0
      exact ⟨e + 1, m, by rw [h1, Nat.pow_succ, ← Nat.mul_assoc, Nat.mul_comm r (r ^ e)], h2⟩
    · exact ⟨0, n, by simp, hd⟩
theorem one_prime (L : List R) (nd : L.Nodup) (ne : ∀ x ∈ L, x ≠ 0) (one : (1 : R) ∈ L) (cl : ∀ a ∈ L, ∀ b ∈ L, a * b ∈ L) (r : Nat) (hr : Prime r) (hd : r ∣ L.length) (h0 : 0 < L.length) :
    ∃ y ∈ L, y ^ (L.length / r) ≠ 1 ∧ ∀ q, Prime q → q ∣ L.length → q ≠ r → y ^ (L.length / q) = 1 := by
  have lag := lagrange dom h10 L nd ne cl
  obtain ⟨N, hN⟩ : ∃ N, L.length = N := ⟨_, rfl⟩
  rw [hN] at hd h0 lag ⊢
  obtain ⟨k, hk⟩ := hd
  have k0 : 0 < k := Nat.pos_of_ne_zero fun z => by subst z; omega
  have hkr : N / r = k := by rw [hk, Nat.mul_div_cancel_left _ hr.pos]
  have klt : k < N := by
    have : 2 * k ≤ r * k := Nat.mul_le_mul_right k hr.1
    omega
  obtain ⟨x, hx, hxk⟩ := not_all dom h10 L nd k k0 (by omega)
  obtain ⟨e, m, he, hm⟩ := split_prime (R := R) dom h10 hr (n := N) (by omega)
  have e1 : e ≠ 0 := fun z => by
    subst z
    rw [Nat.pow_zero, Nat.one_mul] at he
    exact hm (he ▸ ⟨k, hk⟩)
  obtain ⟨e, rfl⟩ : ∃ f, e = f + 1 := ⟨e - 1, by omega⟩
  have kk : k = r ^ e * m := by
    have : r * k = r * (r ^ e * m) := by rw [← hk, he, Nat.pow_succ, Nat.mul_comm (r ^ e) r, Nat.mul_assoc]
    exact Nat.eq_of_mul_eq_mul_left hr.pos this
  refine ⟨x ^ m, pow_mem dom h10 one cl hx m, ?_, fun q hq hqd hne => ?_⟩
  · rw [hkr, kk]
    intro z
    have z1 : (x ^ k) ^ r = 1 := by rw [← pow_mul, Nat.mul_comm, ← hk]; exact lag x hx
    have z2 : (x ^ k) ^ m = 1 := by
      rw [← pow_mul, kk, Nat.mul_comm (r ^ e * m) m, pow_mul]
      exact z
    have g : Nat.gcd r m = 1 := by
      rcases hr.gcd (a := m) with w | w
      · exact w
      · exact absurd w hm
    have := pow_gcd (x ^ k) r m z1 z2
    rw [g, pow_one'] at this
    exact hxk this
  · rw [← pow_mul]
    have : N ∣ m * (N / q) := by
      have hqm : q ∣ m := by
        rw [he] at hqd
        rcases hq.dvd_mul hqd with w | w
        · exact absurd (hq.eq hr (hq.dvd_pow w)) hne
        · exact w
      obtain ⟨t, rfl⟩ := hqm
      have hq2 : N / q = r ^ (e + 1) * t := by
        rw [he, Nat.mul_left_comm, Nat.mul_div_cancel_left _ hq.pos]
      rw [hq2, he]
      exact ⟨t, by simp only [Nat.mul_assoc, Nat.mul_comm, Nat.mul_left_comm]⟩
    exact pow_dvd this (lag x hx)
theorem generator (L : List R) (nd : L.Nodup) (ne : ∀ x ∈ L, x ≠ 0) (one : (1 : R) ∈ L) (cl : ∀ a ∈ L, ∀ b ∈ L, a * b ∈ L) :
    ∃ g ∈ L, ∀ q, Prime q → q ∣ L.length → g ^ (L.length / q) ≠ 1 := by
  have h0 : 0 < L.length := List.length_pos_of_mem one
  have key : ∀ qs : List Nat, qs.Nodup → (∀ q ∈ qs, Prime q ∧ q ∣ L.length) → ∃ g ∈ L, (∀ q ∈ qs, g ^ (L.length / q) ≠ 1) ∧ ∀ r, Prime r → r ∣ L.length → r ∉ qs → g ^ (L.length / r) = 1 := by
    intro qs
    induction qs with
    | nil => exact fun _ _ => ⟨1, one, fun q hq => by simp at hq, fun r _ _ _ => one_pow _⟩
    | cons r qs ih =>
      intro hn hq
      rw [List.nodup_cons] at hn
      obtain ⟨g, hg, h1, h2⟩ := ih hn.2 fun q h => hq q (List.mem_cons_of_mem _ h)
      obtain ⟨hr, hrd⟩ := hq r List.mem_cons_self
      obtain ⟨y, hy, y1, y2⟩ := one_prime dom h10 L nd ne one cl r hr hrd h0
      refine ⟨g * y, cl g hg y hy, fun q hqm => ?_, fun s hs hsd hsm => ?_⟩
      · rcases List.mem_cons.mp hqm with e | e
        · subst e
          rw [mul_pow, h2 q hr hrd hn.1, Semiring.one_mul]
          exact y1
        · obtain ⟨w1, w2⟩ := hq q hqm
          have : q ≠ r := fun z => hn.1 (z ▸ e)
          rw [mul_pow, y2 q w1 w2 this, Semiring.mul_one]
          exact h1 q e
      · rw [List.mem_cons] at hsm
        rw [mul_pow, h2 s hs hsd (fun z => hsm (.inr z)), y2 s hs hsd (fun z => hsm (.inl z)), Semiring.one_mul]
  classical
  obtain ⟨g, hg, h1, _⟩ := key ((List.range (L.length + 1)).filter fun q => decide (Prime q ∧ q ∣ L.length)) (List.nodup_range.filter _) (fun q hq => by
    have := (List.mem_filter.mp hq).2
    exact of_decide_eq_true this)
  refine ⟨g, hg, fun q hq hd => h1 q (List.mem_filter.mpr ⟨List.mem_range.mpr ?_, decide_eq_true ⟨hq, hd⟩⟩)⟩
  have := Nat.le_of_dvd h0 hd
  omega
end
end NT

namespace NT
open Lean.Grind
/-- a finite domain: there is an element of full order -/
theorem full_order {R : Type} [CommRing R] [DecidableEq R] (dom : ∀ a b : R, a * b = 0 → a = 0 ∨ b = 0) (h10 : (1 : R) ≠ 0) (A : List R) (nd : A.Nodup) (all : ∀ x, x ∈ A) :
    (∀ x : R, x ≠ 0 → x ^ (A.length - 1) = 1) ∧ ∃ g : R, g ≠ 0 ∧ ∀ q, Prime q → q ∣ A.length - 1 → g ^ ((A.length - 1) / q) ≠ 1 := by
  have hlen : (A.erase 0).length = A.length - 1 := List.length_erase_of_mem (all 0)
  have hnd : (A.erase 0).Nodup := nd.erase 0
  have hm : ∀ x, x ∈ A.erase 0 ↔ x ≠ 0 := fun x => by
    rw [nd.mem_erase_iff]
    exact ⟨fun h => h.1, fun h => ⟨h, all x⟩⟩
  have ne : ∀ x ∈ A.erase 0, x ≠ 0 := fun x h => (hm x).mp h
  have cl : ∀ a ∈ A.erase 0, ∀ b ∈ A.erase 0, a * b ∈ A.erase 0 := fun a ha b hb => (hm _).mpr fun z => by
    rcases dom _ _ z with e | e
    · exact ne a ha e
    · exact ne b hb e
  have lag := lagrange dom h10 _ hnd ne cl
  obtain ⟨g, hg, h⟩ := generator dom h10 _ hnd ne ((hm 1).mpr h10) cl
  rw [hlen] at lag h
  exact ⟨fun x hx => lag x ((hm x).mpr hx), g, ne g hg, h⟩
/-! ### whole numbers in a ring -/
section
variable {R : Type} [CommRing R]
def cI (a : Int) : R := (Ring.intCast (α := R)).intCast a
def cN (n : Nat) : R := (Semiring.natCast (α := R)).natCast n
theorem cI_add (a b : Int) : (cI (a + b) : R) = cI a + cI b := Ring.intCast_add a b
theorem cI_sub (a b : Int) : (cI (a - b) : R) = cI a - cI b := Ring.intCast_sub a b
theorem cI_mul (a b : Int) : (cI (a * b) : R) = cI a * cI b := Ring.intCast_mul a b
theorem cI_pow (a : Int) (n : Nat) : (cI (a ^ n) : R) = cI a ^ n := Ring.intCast_pow a n
theorem cI_neg (a : Int) : (cI (-a) : R) = -cI a := Ring.intCast_neg a
theorem cI_one : (cI 1 : R) = 1 := Ring.intCast_one
theorem cI_zero : (cI 0 : R) = 0 := Ring.intCast_zero
theorem cI_nat (n : Nat) : (cI (n : Int) : R) = cN n := Ring.intCast_natCast n
theorem cN_zero : (cN 0 : R) = 0 := Semiring.natCast_zero
theorem cN_one : (cN 1 : R) = 1 := Semiring.natCast_one
theorem cN_add (a b : Nat) : (cN (a + b) : R) = cN a + cN b := Semiring.natCast_add a b
end
/-! ### numbers by a prime -/
section
variable {p : Nat} [NeZero p]
theorem cast_val (x : Fin p) : cI (x.val : Int) = x := by
  rw [cI_nat]
  apply Fin.ext
  show (Fin.ofNat p x.val).val = x.val
  rw [Fin.val_ofNat, Nat.mod_eq_of_lt x.isLt]
theorem cast_zero (a : Int) : (cI a : Fin p) = 0 ↔ (p : Int) ∣ a := by
  have := IsCharP.intCast_eq_zero_iff p (α := Fin p) a
  exact ⟨fun h => Int.dvd_of_emod_eq_zero (this.mp h), fun h => this.mpr (Int.emod_eq_zero_of_dvd h)⟩
theorem cast_eq {a b : Int} : (cI a : Fin p) = cI b ↔ a % p = b % p := IsCharP.intCast_ext_iff p
theorem int_dvd_nat {p : Nat} {a : Int} : (p : Int) ∣ a ↔ p ∣ a.natAbs := by
  rw [← Int.natAbs_dvd_natAbs, Int.natAbs_natCast]
theorem Prime.dvd_mulI {p : Nat} (hp : Prime p) {a b : Int} (h : (p : Int) ∣ a * b) : (p : Int) ∣ a ∨ (p : Int) ∣ b := by
  rw [int_dvd_nat, Int.natAbs_mul] at h
  rw [int_dvd_nat, int_dvd_nat]
  exact hp.dvd_mul h
theorem fin_dom (hp : Prime p) (a b : Fin p) (h : a * b = 0) : a = 0 ∨ b = 0 := by
  rw [← cast_val a, ← cast_val b, ← cI_mul, cast_zero] at h
  rw [← cast_val a, ← cast_val b, cast_zero, cast_zero]
  exact hp.dvd_mulI h
theorem fin_one (hp : Prime p) : (1 : Fin p) ≠ 0 := fun z => by
  have h : (cI 1 : Fin p) = 0 := by rw [cI_one]; exact z
  rw [cast_zero] at h
  have := Int.le_of_dvd (by omega) h
  have := hp.1
  omega
theorem cast_one_iff (hp : Prime p) (a : Int) : (cI a : Fin p) = 1 ↔ a % p = 1 := by
  rw [← cI_one, cast_eq]
  have : (1 : Int) % p = 1 := Int.emod_eq_of_lt (by omega) (by have := hp.1; omega)
  rw [this]
end
theorem fermat {p : Nat} (hp : Prime p) (a : Int) (h : ¬ (p : Int) ∣ a) : a ^ (p - 1) % p = 1 := by
  have : NeZero p := ⟨by have := hp.1; omega⟩
  have fo := (full_order (fin_dom hp) (fin_one hp) (List.finRange p) (List.nodup_finRange p) List.mem_finRange).1
  rw [List.length_finRange] at fo
  rw [← cast_one_iff hp, cI_pow]
  exact fo _ fun z => h ((cast_zero a).mp z)
theorem primitive {p : Nat} (hp : Prime p) : ∃ g : Nat, 1 ≤ g ∧ g < p ∧ ∀ q, Prime q → q ∣ p - 1 → (g : Int) ^ ((p - 1) / q) % p ≠ 1 := by
  have : NeZero p := ⟨by have := hp.1; omega⟩
  obtain ⟨g, h0, h⟩ := (full_order (fin_dom hp) (fin_one hp) (List.finRange p) (List.nodup_finRange p) List.mem_finRange).2
  rw [List.length_finRange] at h
  refine ⟨g.val, ?_, g.isLt, fun q hq hd z => h q hq hd ?_⟩
  · rcases Nat.eq_zero_or_pos g.val with z | z
    · exact absurd (Fin.ext z) h0
    · exact z
  · rw [← cast_one_iff hp, cI_pow, cast_val] at z
    exact z
/-! ### R with a root of D -/
structure Ext (R : Type) (D : R) where
  re : R
  im : R
  deriving DecidableEq
namespace Ext
variable {R : Type} [CommRing R] {D : R}
theorem ext' {a b : Ext R D} (h1 : a.re = b.re) (h2 : a.im = b.im) : a = b := by
  cases a; cases b; simp at h1 h2; rw [h1, h2]
instance : Add (Ext R D) := ⟨fun a b => ⟨a.re + b.re, a.im + b.im⟩⟩
instance : Mul (Ext R D) := ⟨fun a b => ⟨a.re * b.re + D * (a.im * b.im), a.re * b.im + a.im * b.re⟩⟩
instance : Neg (Ext R D) := ⟨fun a => ⟨-a.re, -a.im⟩⟩
instance : Sub (Ext R D) := ⟨fun a b => ⟨a.re - b.re, a.im - b.im⟩⟩
instance : NatCast (Ext R D) := ⟨fun n => ⟨cN n, 0⟩⟩
instance (n : Nat) : OfNat (Ext R D) n := ⟨⟨cN n, 0⟩⟩
instance : IntCast (Ext R D) := ⟨fun n => ⟨cI n, 0⟩⟩
instance : SMul Nat (Ext R D) := ⟨fun n a => (n : Ext R D) * a⟩
instance : SMul Int (Ext R D) := ⟨fun n a => (n : Ext R D) * a⟩
def pw (a : Ext R D) : Nat → Ext R D
  | 0 => 1
  | n + 1 => pw a n * a
instance : HPow (Ext R D) Nat (Ext R D) := ⟨pw⟩
theorem add_re (a b : Ext R D) : (a + b).re = a.re + b.re := rfl
theorem add_im (a b : Ext R D) : (a + b).im = a.im + b.im := rfl
theorem mul_re (a b : Ext R D) : (a * b).re = a.re * b.re + D * (a.im * b.im) := rfl
theorem mul_im (a b : Ext R D) : (a * b).im = a.re * b.im + a.im * b.re := rfl
theorem neg_re (a : Ext R D) : (-a).re = -a.re := rfl
theorem neg_im (a : Ext R D) : (-a).im = -a.im := rfl
theorem sub_re (a b : Ext R D) : (a - b).re = a.re - b.re := rfl
theorem sub_im (a b : Ext R D) : (a - b).im = a.im - b.im := rfl
theorem nat_re (n : Nat) : ((n : Ext R D)).re = cN n := rfl
theorem nat_im (n : Nat) : ((n : Ext R D)).im = 0 := rfl
theorem int_re (n : Int) : ((n : Ext R D)).re = cI n := rfl
theorem int_im (n : Int) : ((n : Ext R D)).im = 0 := rfl
theorem zero_re : (0 : Ext R D).re = 0 := cN_zero
theorem zero_im : (0 : Ext R D).im = 0 := rfl
theorem one_re : (1 : Ext R D).re = 1 := cN_one
theorem one_im : (1 : Ext R D).im = 0 := rfl
instance : CommRing (Ext R D) where
  add_zero a := ext' (by rw [add_re, zero_re]; grind) (by rw [add_im, zero_im]; grind)
  add_comm a b := ext' (by rw [add_re, add_re]; grind) (by rw [add_im, add_im]; grind)
  add_assoc a b c := ext' (by simp only [add_re]; grind) (by simp only [add_im]; grind)
  mul_assoc a b c := ext' (by simp only [mul_re, mul_im]; grind) (by simp only [mul_re, mul_im]; grind)
  mul_one a := ext' (by rw [mul_re, one_re, one_im]; grind) (by rw [mul_im, one_re, one_im]; grind)
  one_mul a := ext' (by rw [mul_re, one_re, one_im]; grind) (by rw [mul_im, one_re, one_im]; grind)
  right_distrib a b c := ext' (by simp only [mul_re, add_re, add_im]; grind) (by simp only [mul_im, add_re, add_im]; grind)
  mul_zero a := ext' (by rw [mul_re, zero_re, zero_im]; grind) (by rw [mul_im, zero_re, zero_im]; grind)
  mul_comm a b := ext' (by simp only [mul_re]; grind) (by simp only [mul_im]; grind)
  left_distrib a b c := ext' (by simp only [mul_re, add_re, add_im]; grind) (by simp only [mul_im, add_re, add_im]; grind)
  zero_mul a := ext' (by rw [mul_re, zero_re, zero_im]; grind) (by rw [mul_im, zero_re, zero_im]; grind)
  pow_zero a := rfl
  pow_succ a n := rfl
  ofNat_succ n := ext' (by show (cN (n + 1) : R) = cN n + cN 1; rw [cN_add]) (by show (0 : R) = 0 + 0; grind)
  ofNat_eq_natCast n := rfl
  nsmul_eq_natCast_mul n a := rfl
  neg_add_cancel a := ext' (by rw [add_re, neg_re, zero_re]; grind) (by rw [add_im, neg_im, zero_im]; grind)
  sub_eq_add_neg a b := ext' (by rw [sub_re, add_re, neg_re]; grind) (by rw [sub_im, add_im, neg_im]; grind)
  neg_zsmul n a := by
    show ((-n : Int) : Ext R D) * a = -((n : Ext R D) * a)
    exact ext' (by simp only [mul_re, neg_re, int_re, int_im, cI_neg]; grind) (by simp only [mul_im, neg_im, int_re, int_im, cI_neg]; grind)
  zsmul_natCast_eq_nsmul n a := by
    show ((n : Int) : Ext R D) * a = (n : Ext R D) * a
    exact ext' (by simp only [mul_re, nat_re, nat_im, int_re, int_im, cI_nat]) (by simp only [mul_im, nat_re, nat_im, int_re, int_im, cI_nat])
  intCast_ofNat n := ext' (by show (cI (OfNat.ofNat n : Int) : R) = cN n; exact (cI_nat n)) rfl
  intCast_neg n := ext' (by show (cI (-n) : R) = -cI n; rw [cI_neg]) (by show (0 : R) = -0; grind)
end Ext
end NT

namespace NT
open Lean.Grind
namespace Ext
variable {R : Type} [CommRing R] {D : R}
def conj (a : Ext R D) : Ext R D := ⟨a.re, -a.im⟩
def nrm (a : Ext R D) : R := a.re * a.re - D * (a.im * a.im)
theorem conj_mul (a b : Ext R D) : conj (a * b) = conj a * conj b := ext' (by simp only [conj, mul_re]; grind) (by simp only [conj, mul_im]; grind)
theorem mul_conj (a : Ext R D) : a * conj a = ⟨nrm a, 0⟩ := ext' (by simp only [conj, mul_re, nrm]; grind) (by simp only [conj, mul_im]; grind)
theorem conj_one : conj (1 : Ext R D) = 1 := ext' rfl (by show -(0 : R) = 0; grind)
theorem pow_succ' (a : Ext R D) (n : Nat) : a ^ (n + 1) = a ^ n * a := rfl
theorem conj_pow (a : Ext R D) : ∀ n : Nat, conj (a ^ n) = conj a ^ n
  | 0 => conj_one
  | n + 1 => by rw [pow_succ', conj_mul, conj_pow a n, ← pow_succ']
theorem real_pow (x : R) : ∀ n : Nat, (⟨x, 0⟩ : Ext R D) ^ n = ⟨x ^ n, 0⟩
  | 0 => ext' (show (1 : Ext R D).re = x ^ 0 by rw [one_re, Semiring.pow_zero]) rfl
  | n + 1 => by
    rw [pow_succ', real_pow x n, Semiring.pow_succ]
    exact ext' (by rw [mul_re]; grind) (by rw [mul_im]; grind)
theorem cI_re (a : Int) : (cI a : Ext R D).re = cI a := rfl
theorem cI_im (a : Int) : (cI a : Ext R D).im = 0 := rfl
theorem nrm_mul (a b : Ext R D) : nrm (a * b) = nrm a * nrm b := by simp only [nrm, mul_re, mul_im]; grind
theorem dom' (dom : ∀ a b : R, a * b = 0 → a = 0 ∨ b = 0) (inv : ∀ a : R, a ≠ 0 → ∃ b, a * b = 1) (hD : ∀ x : R, x * x ≠ D) (a b : Ext R D) (h : a * b = 0) : a = 0 ∨ b = 0 := by
  have nz : ∀ a : Ext R D, nrm a = 0 → a = 0 := fun a h => by
    have e : a.re * a.re = D * (a.im * a.im) := by unfold nrm at h; grind
    have him : a.im = 0 := by
      apply Classical.byContradiction
      intro z
      obtain ⟨b, hb⟩ := inv _ z
      apply hD (a.re * b)
      have : (a.re * b) * (a.re * b) = D * ((a.im * b) * (a.im * b)) := by grind
      rw [this, hb]; grind
    have hre : a.re = 0 := by
      rw [him] at e
      rcases dom a.re a.re (by grind) with w | w <;> exact w
    exact ext' (by rw [hre, zero_re]) (by rw [him, zero_im])
  have h1 : nrm a * nrm b = 0 := by rw [← nrm_mul, h]; simp only [nrm, zero_re, zero_im]; grind
  rcases dom _ _ h1 with w | w
  · exact .inl (nz a w)
  · exact .inr (nz b w)
end Ext
/-! ### the rows of two numbers -/
def lu (P Q : Int) : Nat → Int
  | 0 => 0
  | 1 => 1
  | n + 2 => P * lu P Q (n + 1) - Q * lu P Q n
theorem lu_closed {R : Type} [CommRing R] {P Q : Int} {a b : R} (h1 : a + b = cI P) (h2 : a * b = cI Q) : ∀ n : Nat, (a - b) * cI (lu P Q n) = a ^ n - b ^ n ∧ (a - b) * cI (lu P Q (n + 1)) = a ^ (n + 1) - b ^ (n + 1)
  | 0 => by
    simp only [lu, cI_zero, cI_one]
    rw [Semiring.pow_zero, Semiring.pow_zero, Semiring.pow_succ, Semiring.pow_succ, Semiring.pow_zero, Semiring.pow_zero]
    exact ⟨by grind, by grind⟩
  | n + 1 => by
    obtain ⟨e1, e2⟩ := lu_closed h1 h2 n
    refine ⟨e2, ?_⟩
    simp only [lu, cI_sub, cI_mul]
    rw [← h1, ← h2]
    have : (a - b) * ((a + b) * cI (lu P Q (n + 1)) - a * b * cI (lu P Q n)) = (a + b) * ((a - b) * cI (lu P Q (n + 1))) - a * b * ((a - b) * cI (lu P Q n)) := by grind
    rw [this, e1, e2]
    simp only [Semiring.pow_succ]
    grind
theorem sq_pow {R : Type} [CommRing R] (x : R) (h : Nat) : (x * x) ^ h = x ^ (2 * h) := by
  rw [pow_mul, Semiring.pow_succ, pow_one']
theorem sub_one_mul {R : Type} [CommRing R] (a b : R) : (a - 1) * b = a * b - b := by grind
theorem sub_self' {R : Type} [CommRing R] (a : R) : 1 * a - a = 0 := by grind
theorem prime_two : Prime 2 := by
  refine ⟨by omega, fun d hd => ?_⟩
  have h1 := Nat.le_of_dvd (by omega) hd
  have h2 : d ≠ 0 := fun z => by subst z; simp at hd
  omega
/-- for an odd prime: two numbers whose row shows it -/
theorem exists_rows {p : Nat} (hp : Prime p) (ho : p % 2 = 1) : ∃ P : Int, ((P * P - 4 * P) ^ ((p - 1) / 2) + 1) % p = 0 ∧ ¬ (p : Int) ∣ P ∧ (p : Int) ∣ lu P P (p + 1) ∧ ∀ q, Prime q → q ∣ p + 1 → ¬ (p : Int) ∣ lu P P ((p + 1) / q) := by
  have ip : NeZero p := ⟨by have := hp.1; omega⟩
  have p3 : 3 ≤ p := by have := hp.1; omega
  have dom := fin_dom hp
  have h10 := fin_one hp
  obtain ⟨fo, g, g0, hg⟩ := full_order dom h10 (List.finRange p) (List.nodup_finRange p) List.mem_finRange
  rw [List.length_finRange] at fo hg
  have h2 : Prime 2 := prime_two
  have hh : (p - 1) / 2 * 2 = p - 1 := by omega
  have g1 : g ^ ((p - 1) / 2) ≠ 1 := hg 2 h2 ⟨(p - 1) / 2, by omega⟩
  have gm : g ^ ((p - 1) / 2) = -1 := by
    have e : (g ^ ((p - 1) / 2) - 1) * (g ^ ((p - 1) / 2) + 1) = 0 := by
      have : g ^ ((p - 1) / 2) * g ^ ((p - 1) / 2) = 1 := by rw [← pow_add, ← Nat.mul_two, hh]; exact fo g g0
      grind
    rcases dom _ _ e with z | z
    · exact absurd (by grind) g1
    · grind
  have inv : ∀ a : Fin p, a ≠ 0 → ∃ b, a * b = 1 := fun a ha => ⟨a ^ (p - 2), by
    have := fo a ha
    rw [show p - 1 = (p - 2) + 1 by omega, Semiring.pow_succ] at this
    grind⟩
  have nsq : ∀ x : Fin p, x * x ≠ g := fun x e => by
    apply g1
    have x0 : x ≠ 0 := fun z => by subst z; exact g0 (by rw [← e]; grind)
    rw [← e, sq_pow, show 2 * ((p - 1) / 2) = p - 1 by omega]
    exact fo x x0
  have edom := Ext.dom' (D := g) dom inv nsq
  have e10 : (1 : Ext (Fin p) g) ≠ 0 := fun z => by
    have := congrArg Ext.re z
    rw [Ext.one_re, Ext.zero_re] at this
    exact h10 this
  obtain ⟨A, nA, lA, aA⟩ : ∃ A : List (Ext (Fin p) g), A.Nodup ∧ A.length = p * p ∧ ∀ x, x ∈ A := by
    have lt1 : ∀ i, i < p * p → i / p < p := fun i h => Nat.div_lt_of_lt_mul h
    refine ⟨(List.range (p * p)).map fun i => ⟨Fin.ofNat p (i / p), Fin.ofNat p i⟩, nodup_map List.nodup_range fun i hi j hj e => ?_, by simp, fun x => ?_⟩
    · rw [List.mem_range] at hi hj
      have e1 := congrArg (fun z : Ext (Fin p) g => z.re.val) e
      have e2 := congrArg (fun z : Ext (Fin p) g => z.im.val) e
      simp only [Fin.val_ofNat] at e1 e2
      rw [Nat.mod_eq_of_lt (lt1 i hi), Nat.mod_eq_of_lt (lt1 j hj)] at e1
      rw [← Nat.div_add_mod i p, ← Nat.div_add_mod j p, e1, e2]
    · refine List.mem_map.mpr ⟨p * x.re.val + x.im.val, List.mem_range.mpr ?_, ?_⟩
      · have := x.re.isLt
        have := x.im.isLt
        have : p * x.re.val + p ≤ p * p := by rw [← Nat.mul_succ]; exact Nat.mul_le_mul_left p (by omega)
        omega
      · apply Ext.ext'
        · apply Fin.ext
          rw [Fin.val_ofNat, Nat.mul_add_div hp.pos, Nat.div_eq_of_lt x.im.isLt, Nat.add_zero, Nat.mod_eq_of_lt x.re.isLt]
        · apply Fin.ext
          rw [Fin.val_ofNat, Nat.mul_add_mod, Nat.mod_eq_of_lt x.im.isLt]
  obtain ⟨efo, γ, γ0, hγ⟩ := full_order edom e10 A nA aA
  rw [lA] at efo hγ
  have pp : p * p - 1 = (p - 1) * (p + 1) := by
    obtain ⟨k, rfl⟩ : ∃ k, p = k + 1 := ⟨p - 1, by omega⟩
    have : (k + 1) * (k + 1) = k * (k + 2) + 1 := by grind
    rw [this]; simp
  rw [pp] at efo hγ
  obtain ⟨β, hβ⟩ : ∃ β, β = γ ^ (p - 1) := ⟨_, rfl⟩
  have b1 : β ^ (p + 1) = 1 := by rw [hβ, ← pow_mul]; exact efo γ γ0
  have b2 : ∀ q, Prime q → q ∣ p + 1 → β ^ ((p + 1) / q) ≠ 1 := fun q hq hd => by
    rw [hβ, ← pow_mul]
    have := hγ q hq (Nat.dvd_trans hd ⟨p - 1, Nat.mul_comm _ _⟩)
    rwa [Nat.mul_div_assoc _ hd] at this
  have bb : β ^ 2 ≠ 1 := fun z => by
    obtain ⟨q, hq, hd⟩ := exists_prime (n := (p + 1) / 2) (by omega)
    obtain ⟨k, hk⟩ := hd
    have e : p + 1 = q * (2 * k) := by rw [Nat.mul_left_comm, ← hk]; omega
    apply b2 q hq ⟨_, e⟩
    rw [e, Nat.mul_div_cancel_left _ hq.pos, pow_mul, z, one_pow]
  have bn : β * Ext.conj β = 1 := by
    rw [hβ, Ext.conj_pow, ← mul_pow, Ext.mul_conj, Ext.real_pow]
    have n0 : Ext.nrm γ ≠ 0 := fun z => by
      have := Ext.mul_conj γ
      rw [z] at this
      have h0 : γ * Ext.conj γ = 0 := by rw [this]; exact Ext.ext' (by rw [Ext.zero_re]) (by rw [Ext.zero_im])
      rcases edom _ _ h0 with w | w
      · exact γ0 w
      · apply γ0
        have w1 := congrArg Ext.re w
        have w2 := congrArg Ext.im w
        simp only [Ext.conj, Ext.zero_re, Ext.zero_im] at w1 w2
        exact Ext.ext' (by rw [w1, Ext.zero_re]) (by rw [Ext.zero_im]; grind)
    rw [fo _ n0]
    exact Ext.ext' (by rw [Ext.one_re]) (by rw [Ext.one_im])
  have bne : β ≠ Ext.conj β := fun z => bb (by rw [← z] at bn; rw [Semiring.pow_succ, pow_one']; exact bn)
  obtain ⟨r, hr⟩ : ∃ r, β.re = r := ⟨_, rfl⟩
  obtain ⟨s, hs⟩ : ∃ s, β.im = s := ⟨_, rfl⟩
  have s0 : s ≠ 0 := fun z => bne (Ext.ext' rfl (by show β.im = -β.im; rw [hs, z]; grind))
  have rs : r * r - g * (s * s) = 1 := by
    rw [Ext.mul_conj] at bn
    have := congrArg Ext.re bn
    rw [Ext.one_re] at this
    rw [← hr, ← hs]; exact this
  obtain ⟨P, hP⟩ : ∃ P : Int, (cI P : Fin p) = 2 + 2 * r := ⟨((2 + 2 * r).val : Int), cast_val _⟩
  have hPe : (cI P : Ext (Fin p) g) = ⟨2 + 2 * r, 0⟩ := Ext.ext' (by rw [Ext.cI_re, hP]) (by rw [Ext.cI_im])
  obtain ⟨α, hα⟩ : ∃ α, α = 1 + β := ⟨_, rfl⟩
  obtain ⟨ω, hω⟩ : ∃ ω, ω = 1 + Ext.conj β := ⟨_, rfl⟩
  have aw : α = β * ω := by rw [hα, hω]; grind
  have a1 : α + ω = cI P := by
    rw [hPe, hα, hω]
    exact Ext.ext' (by simp only [Ext.add_re, Ext.one_re, Ext.conj, hr]; grind) (by simp only [Ext.add_im, Ext.one_im, Ext.conj]; grind)
  have a2 : α * ω = cI P := by
    have : α * ω = α + ω := by rw [hα, hω]; grind
    rw [this, a1]
  have w0 : ω ≠ 0 := fun z => by
    have : α = 0 := by rw [aw, z]; grind
    apply bb
    have : β = -1 := by grind
    rw [this, Semiring.pow_succ, pow_one']; grind
  have d0 : α - ω ≠ 0 := fun z => bne (by rw [hα, hω] at z; grind)
  have key : ∀ k : Nat, (p : Int) ∣ lu P P k ↔ β ^ k = 1 := fun k => by
    rw [← cast_zero]
    have e := (lu_closed a1 a2 k).1
    have hz : (cI (lu P P k) : Ext (Fin p) g) = 0 ↔ (cI (lu P P k) : Fin p) = 0 := by
      constructor
      · intro h
        have := congrArg Ext.re h
        rw [Ext.cI_re, Ext.zero_re] at this; exact this
      · intro h
        exact Ext.ext' (by rw [Ext.cI_re, h, Ext.zero_re]) (by rw [Ext.cI_im, Ext.zero_im])
    rw [← hz]
    rw [aw, mul_pow] at e
    constructor
    · intro h
      rw [h] at e
      have h1 : (β ^ k - 1) * ω ^ k = 0 := by rw [sub_one_mul, ← e, Semiring.mul_zero]
      rcases edom _ _ h1 with w | w
      · grind
      · exact absurd w (pow_ne edom e10 w0 k)
    · intro h
      rw [h] at e
      have h1 : (β * ω - ω) * cI (lu P P k) = 0 := by rw [e, sub_self']
      rcases edom _ _ h1 with w | w
      · rw [← aw] at w; exact absurd w d0
      · exact w
  refine ⟨P, ?_, fun z => ?_, (key _).mpr b1, fun q hq hd z => b2 q hq hd ((key _).mp z)⟩
  · apply Int.emod_eq_zero_of_dvd
    rw [← cast_zero, cI_add, cI_pow, cI_one, cI_sub, cI_mul, cI_mul, hP]
    have c4 : (cI 4 : Fin p) = 4 := by
      have : (4 : Int) = 1 + 1 + 1 + 1 := rfl
      rw [this, cI_add, cI_add, cI_add, cI_one]; grind
    rw [c4]
    have e : (2 + 2 * r) * (2 + 2 * r) - 4 * (2 + 2 * r) = g * ((2 * s) * (2 * s)) := by grind
    rw [e, mul_pow, gm]
    have t0 : (2 * s) ≠ 0 := fun z => by
      rcases dom _ _ z with w | w
      · have : (cI 2 : Fin p) = 0 := by
          have : (2 : Int) = 1 + 1 := rfl
          rw [this, cI_add, cI_one]; grind
        rw [cast_zero] at this
        have := Int.le_of_dvd (by omega) this
        omega
      · exact s0 w
    have : ((2 * s) * (2 * s)) ^ ((p - 1) / 2) = 1 := by
      rw [sq_pow, show 2 * ((p - 1) / 2) = p - 1 by omega]
      exact fo _ t0
    rw [this]; grind
  · rw [← cast_zero] at z
    have : (cI P : Ext (Fin p) g) = 0 := Ext.ext' (by rw [Ext.cI_re, z, Ext.zero_re]) (by rw [Ext.cI_im, Ext.zero_im])
    rw [← a2] at this
    rcases edom _ _ this with w | w
    · rw [aw] at w
      rcases edom _ _ w with v | v
      · rw [v] at bn
        exact e10 (by rw [← bn]; grind)
      · exact w0 v
    · exact w0 w
end NT

namespace NT
open Lean.Grind
theorem exists_between {m n : Nat} (hd : m ∣ n) (hm : m ≠ n) (hn : 0 < n) : ∃ q, Prime q ∧ q ∣ n ∧ m ∣ n / q := by
  obtain ⟨k, rfl⟩ := hd
  have k0 : k ≠ 0 := fun z => by subst z; simp at hn
  have k1 : k ≠ 1 := fun z => by subst z; simp at hm
  obtain ⟨q, hq, t, rfl⟩ := exists_prime (n := k) (by omega)
  exact ⟨q, hq, ⟨m * t, by rw [Nat.mul_left_comm]⟩, by rw [Nat.mul_left_comm, Nat.mul_div_cancel_left _ hq.pos]; exact ⟨t, rfl⟩⟩
/-- a number that bears full order is prime -/
theorem pratt {n : Nat} (h2 : 2 ≤ n) (g : Int) (h1 : g ^ (n - 1) % n = 1) (hq : ∀ q, Prime q → q ∣ n - 1 → g ^ ((n - 1) / q) % n ≠ 1) : Prime n := by
  have : NeZero n := ⟨by omega⟩
  have one : ∀ a : Int, (cI a : Fin n) = 1 ↔ a % n = 1 := fun a => by
    rw [← cI_one, cast_eq]
    have : (1 : Int) % n = 1 := Int.emod_eq_of_lt (by omega) (by omega)
    rw [this]
  obtain ⟨x, hx⟩ : ∃ x : Fin n, x = cI g := ⟨_, rfl⟩
  have x1 : x ^ (n - 1) = 1 := by rw [hx, ← cI_pow, one]; exact h1
  have x2 : ∀ q, Prime q → q ∣ n - 1 → x ^ ((n - 1) / q) ≠ 1 := fun q a b z => hq q a b (by rw [← one, cI_pow, ← hx]; exact z)
  have nd : ∀ i j, i < j → j < n - 1 → x ^ i ≠ x ^ j := fun i j hij hj z => by
    have e : x ^ (j - i) = 1 := by
      have a1 : x ^ (n - 1 - i) * x ^ i = 1 := by rw [← pow_add, show n - 1 - i + i = n - 1 by omega]; exact x1
      have a2 : x ^ (n - 1 - i) * x ^ j = x ^ (j - i) := by rw [← pow_add, show n - 1 - i + j = (n - 1) + (j - i) by omega, pow_add, x1, Semiring.one_mul]
      rw [← a2, ← z, a1]
    have e2 := pow_gcd x _ _ e x1
    obtain ⟨q, q1, q2, q3⟩ := exists_between (Nat.gcd_dvd_right (j - i) (n - 1)) (fun w => by
      have := Nat.le_of_dvd (by omega) (Nat.gcd_dvd_left (j - i) (n - 1))
      omega) (by omega)
    exact x2 q q1 q2 (pow_dvd q3 e2)
  obtain ⟨r, hr, hd⟩ := exists_prime h2
  by_cases hlt : ¬ r < n
  · have := Nat.le_of_dvd (by omega) hd
    have : r = n := by omega
    exact this ▸ hr
  have hlt : r < n := by omega
  exfalso
  have L : ∃ i, i < n - 1 ∧ x ^ i = Fin.ofNat n r := by
    have nz : ∀ i, i < n - 1 → x ^ i ≠ 0 := fun i hi z => by
      have a1 : x ^ (n - 1 - i) * x ^ i = 1 := by rw [← pow_add, show n - 1 - i + i = n - 1 by omega]; exact x1
      rw [z, Semiring.mul_zero, ← cI_zero] at a1
      have hz := (one 0).mp a1
      rw [Int.zero_emod] at hz
      omega
    have pm : ((List.range (n - 1)).map fun i => x ^ i).Perm ((List.finRange n).erase 0) := perm_of_sub (nodup_map List.nodup_range fun i hi j hj e => by
        rw [List.mem_range] at hi hj
        rcases Nat.lt_trichotomy i j with w | w | w
        · exact absurd e (nd i j w hj)
        · exact w
        · exact absurd e.symm (nd j i w hi)) ((List.nodup_finRange n).erase 0) (fun y hy => by
        obtain ⟨i, hi, rfl⟩ := List.mem_map.mp hy
        rw [List.mem_range] at hi
        rw [(List.nodup_finRange n).mem_erase_iff]
        exact ⟨nz i hi, List.mem_finRange _⟩) (by
        rw [List.length_map, List.length_range, List.length_erase_of_mem (List.mem_finRange 0), List.length_finRange]
        exact Nat.le_refl _)
    have hm : Fin.ofNat n r ∈ (List.finRange n).erase 0 := by
      rw [(List.nodup_finRange n).mem_erase_iff]
      refine ⟨fun z => ?_, List.mem_finRange _⟩
      have hv := congrArg Fin.val z
      rw [Fin.val_ofNat, Nat.mod_eq_of_lt hlt] at hv
      have h9 := hr.1
      have h8 : ((0 : Fin n)).val = 0 := Fin.val_zero n
      omega
    obtain ⟨i, hi, e⟩ := List.mem_map.mp (pm.mem_iff.mpr hm)
    exact ⟨i, List.mem_range.mp hi, e⟩
  obtain ⟨i, hi, e⟩ := L
  have hc : (cI (r : Int) : Fin n) = Fin.ofNat n r := by rw [cI_nat]; rfl
  rw [← hc, hx, ← cI_pow, cast_eq] at e
  have d1 : (r : Int) ∣ g ^ i := by
    have hn : (r : Int) ∣ n := Int.natCast_dvd_natCast.mpr hd
    have h3 : (n : Int) ∣ g ^ i - r := Int.dvd_of_emod_eq_zero (by rw [Int.sub_emod, e]; simp)
    have h4 := Int.dvd_trans hn h3
    have : g ^ i = (g ^ i - r) + r := by omega
    rw [this]
    exact Int.dvd_add h4 (Int.dvd_refl _)
  have d2 : (r : Int) ∣ g ^ (n - 1) := by
    rw [show n - 1 = i + (n - 1 - i) by omega, Int.pow_add]
    exact Int.dvd_trans d1 ⟨_, rfl⟩
  have d3 : (r : Int) ∣ g ^ (n - 1) - 1 := Int.dvd_trans (Int.natCast_dvd_natCast.mpr hd) (Int.dvd_of_emod_eq_zero (by
    rw [Int.sub_emod, h1, Int.emod_eq_of_lt (by omega : (0 : Int) ≤ 1) (by omega : (1 : Int) < n)]; rfl))
  have : (r : Int) ∣ 1 := by
    have h5 := Int.dvd_sub d2 d3
    have e5 : g ^ (n - 1) - (g ^ (n - 1) - 1) = 1 := by omega
    rwa [e5] at h5
  have := Int.le_of_dvd (by omega) this
  have := hr.1
  omega
/-! ### ranks in the rows of two numbers -/
theorem lu_id (P Q : Int) (d : Nat) : ∀ i : Nat, lu P Q (i + 1) * lu P Q (i + d) - lu P Q (i + d + 1) * lu P Q i = Q ^ i * lu P Q d
  | 0 => by simp [lu]
  | i + 1 => by
    have ih := lu_id P Q d i
    have e1 : lu P Q (i + 1 + 1) = P * lu P Q (i + 1) - Q * lu P Q i := rfl
    have e2 : lu P Q (i + 1 + d + 1) = P * lu P Q (i + d + 1) - Q * lu P Q (i + d) := by
      rw [show i + 1 + d + 1 = (i + d) + 2 by omega]; rfl
    rw [e1, e2, show i + 1 + d = i + d + 1 by omega, Int.pow_succ]
    have : (P * lu P Q (i + 1) - Q * lu P Q i) * lu P Q (i + d + 1) - (P * lu P Q (i + d + 1) - Q * lu P Q (i + d)) * lu P Q (i + 1) = Q * (lu P Q (i + 1) * lu P Q (i + d) - lu P Q (i + d + 1) * lu P Q i) := by grind
    rw [this, ih]; grind
section
variable {r : Nat} (hr : Prime r) {P Q : Int} (hQ : ¬ (r : Int) ∣ Q)
include hr hQ
theorem powQ (i : Nat) : ¬ (r : Int) ∣ Q ^ i := by
  induction i with
  | zero => intro h; rw [Int.pow_zero] at h; have := Int.le_of_dvd (by omega) h; have := hr.1; omega
  | succ i ih =>
    intro h
    rw [Int.pow_succ] at h
    rcases hr.dvd_mulI h with w | w
    · exact ih w
    · exact hQ w
theorem lu_next {m : Nat} (h : (r : Int) ∣ lu P Q m) : ¬ (r : Int) ∣ lu P Q (m + 1) := fun z => by
  have e := lu_id P Q 1 m
  have : (r : Int) ∣ Q ^ m * lu P Q 1 := by
    rw [← e]
    exact Int.dvd_sub (Int.dvd_trans z ⟨_, rfl⟩) (Int.dvd_trans h ⟨_, Int.mul_comm _ _⟩)
  simp only [lu, Int.mul_one] at this
  exact powQ hr hQ m this
theorem lu_diff {m n : Nat} (h : (r : Int) ∣ lu P Q m) (h2 : (r : Int) ∣ lu P Q (m + n)) : (r : Int) ∣ lu P Q n := by
  have e := lu_id P Q n m
  have : (r : Int) ∣ Q ^ m * lu P Q n := by
    rw [← e]
    exact Int.dvd_sub (Int.dvd_trans h2 ⟨_, Int.mul_comm _ _⟩) (Int.dvd_trans h ⟨_, Int.mul_comm _ _⟩)
  rcases hr.dvd_mulI this with w | w
  · exact absurd w (powQ hr hQ m)
  · exact w
theorem lu_sum {m n : Nat} (h : (r : Int) ∣ lu P Q m) (h2 : (r : Int) ∣ lu P Q n) : (r : Int) ∣ lu P Q (m + n) := by
  have e := lu_id P Q n m
  have : (r : Int) ∣ lu P Q (m + 1) * lu P Q (m + n) := by
    have e2 : lu P Q (m + 1) * lu P Q (m + n) = Q ^ m * lu P Q n + lu P Q (m + n + 1) * lu P Q m := by omega
    rw [e2]
    exact Int.dvd_add (Int.dvd_trans h2 ⟨_, Int.mul_comm _ _⟩) (Int.dvd_trans h ⟨_, Int.mul_comm _ _⟩)
  rcases hr.dvd_mulI this with w | w
  · exact absurd w (lu_next hr hQ h)
  · exact w
theorem lu_times {m : Nat} (h : (r : Int) ∣ lu P Q m) : ∀ k : Nat, (r : Int) ∣ lu P Q (m * k)
  | 0 => ⟨0, by simp [lu]⟩
  | k + 1 => by rw [Nat.mul_succ]; exact lu_sum hr hQ (lu_times h k) h
theorem lu_gcd (m n : Nat) (h1 : (r : Int) ∣ lu P Q m) (h2 : (r : Int) ∣ lu P Q n) : (r : Int) ∣ lu P Q (Nat.gcd m n) := by
  induction m, n using Nat.gcd.induction with
  | H0 n => rw [Nat.gcd_zero_left]; exact h2
  | H1 m n hm ih =>
    rw [Nat.gcd_rec]
    refine ih ?_ h1
    rw [← Nat.div_add_mod n m] at h2
    exact lu_diff hr hQ (lu_times hr hQ h1 _) h2
theorem lu_rank : ∃ k, 1 ≤ k ∧ k ≤ r + 1 ∧ (r : Int) ∣ lu P Q k := by
  have : NeZero r := ⟨by have := hr.1; omega⟩
  classical
  have fo := (full_order (fin_dom hr) (fin_one hr) (List.finRange r) (List.nodup_finRange r) List.mem_finRange).1
  rw [List.length_finRange] at fo
  obtain ⟨c, hc⟩ : ∃ c : Nat → Nat, c = fun k => if (r : Int) ∣ lu P Q k then r else ((cI (lu P Q (k + 1)) * cI (lu P Q k) ^ (r - 2) : Fin r)).val := ⟨_, rfl⟩
  have hlt : ∀ k, c k < r + 1 := fun k => by
    rw [hc]; dsimp only
    split
    · omega
    · exact Nat.lt_succ_of_lt (Fin.isLt _)
  have : ∃ i j, i < j ∧ j ≤ r + 1 ∧ c i = c j := by
    apply Classical.byContradiction
    intro z
    have nd : ((List.range (r + 2)).map c).Nodup := nodup_map List.nodup_range fun i hi j hj e => by
      rw [List.mem_range] at hi hj
      rcases Nat.lt_trichotomy i j with w | w | w
      · exact absurd ⟨i, j, w, by omega, e⟩ z
      · exact w
      · exact absurd ⟨j, i, w, by omega, e.symm⟩ z
    have := List.Nodup.length_le_of_subset nd (l₂ := List.range (r + 1)) fun x hx => by
      obtain ⟨k, _, rfl⟩ := List.mem_map.mp hx
      exact List.mem_range.mpr (hlt k)
    rw [List.length_map, List.length_range, List.length_range] at this
    omega
  obtain ⟨i, j, hij, hj, e⟩ := this
  rw [hc] at e
  dsimp only at e
  by_cases h1 : (r : Int) ∣ lu P Q i
  · by_cases h2 : (r : Int) ∣ lu P Q j
    · exact ⟨j, by omega, hj, h2⟩
    · rw [if_pos h1, if_neg h2] at e
      have := Fin.isLt (cI (lu P Q (j + 1)) * cI (lu P Q j) ^ (r - 2) : Fin r)
      omega
  · by_cases h2 : (r : Int) ∣ lu P Q j
    · rw [if_neg h1, if_pos h2] at e
      have := Fin.isLt (cI (lu P Q (i + 1)) * cI (lu P Q i) ^ (r - 2) : Fin r)
      omega
    · rw [if_neg h1, if_neg h2] at e
      have e := Fin.ext e
      have hi0 : (cI (lu P Q i) : Fin r) ≠ 0 := fun z => h1 ((cast_zero _).mp z)
      have hj0 : (cI (lu P Q j) : Fin r) ≠ 0 := fun z => h2 ((cast_zero _).mp z)
      have fi := fo _ hi0
      have fj := fo _ hj0
      have r2 : r - 1 = (r - 2) + 1 := by have := hr.1; omega
      rw [r2, Semiring.pow_succ] at fi fj
      refine ⟨j - i, by omega, by omega, ?_⟩
      have id := lu_id P Q (j - i) i
      rw [show i + (j - i) = j by omega] at id
      have id2 : (cI (lu P Q (i + 1)) : Fin r) * cI (lu P Q j) - cI (lu P Q (j + 1)) * cI (lu P Q i) = cI (Q ^ i * lu P Q (j - i)) := by
        rw [← id, cI_sub, cI_mul, cI_mul]
      have z0 : (cI (Q ^ i * lu P Q (j - i)) : Fin r) = 0 := by
        rw [← id2]
        generalize (cI (lu P Q (i + 1)) : Fin r) = a1 at *
        generalize (cI (lu P Q (j + 1)) : Fin r) = b1 at *
        generalize (cI (lu P Q i) : Fin r) = a at *
        generalize (cI (lu P Q j) : Fin r) = b at *
        generalize a ^ (r - 2) = x at *
        generalize b ^ (r - 2) = y at *
        have t1 : a1 * b = a1 * b * (x * a) := by rw [fi, Semiring.mul_one]
        have t2 : b1 * a = b1 * a * (y * b) := by rw [fj, Semiring.mul_one]
        have t3 : a1 * b * (x * a) = (a1 * x) * (a * b) := by
          clear e fi fj hi0 hj0 t1 t2 id2; grind
        have t4 : b1 * a * (y * b) = (b1 * y) * (a * b) := by
          clear e fi fj hi0 hj0 t1 t2 t3 id2; grind
        rw [t1, t3, t2, t4, e]
        grind
      rw [cast_zero] at z0
      rcases hr.dvd_mulI z0 with w | w
      · exact absurd w (powQ hr hQ i)
      · exact w
end
/-- rows that show a prime from above -/
theorem lucas {n : Nat} (hn : 2 ≤ n) (P Q : Int) (hQ : ∀ r, Prime r → r ∣ n → ¬ (r : Int) ∣ Q) (h0 : (n : Int) ∣ lu P Q (n + 1)) (hq : ∀ q, Prime q → q ∣ n + 1 → ∀ r, Prime r → r ∣ n → ¬ (r : Int) ∣ lu P Q ((n + 1) / q)) : Prime n := by
  obtain ⟨r, hr, hd⟩ := exists_prime hn
  have hQr := hQ r hr hd
  obtain ⟨k, k1, k2, k3⟩ := lu_rank hr hQr (P := P)
  have h0r : (r : Int) ∣ lu P Q (n + 1) := Int.dvd_trans (Int.natCast_dvd_natCast.mpr hd) h0
  have hg := lu_gcd hr hQr k (n + 1) k3 h0r
  have e : Nat.gcd k (n + 1) = n + 1 := by
    apply Classical.byContradiction
    intro z
    obtain ⟨q, q1, q2, t, ht⟩ := exists_between (Nat.gcd_dvd_right k (n + 1)) z (by omega)
    apply hq q q1 q2 r hr hd
    rw [ht]
    exact lu_times hr hQr hg t
  have h1 : n + 1 ≤ k := by rw [← e]; exact Nat.le_of_dvd (by omega) (Nat.gcd_dvd_left _ _)
  have h2 := Nat.le_of_dvd (by omega) hd
  have : r = n := by omega
  exact this ▸ hr
end NT

namespace NT
open Lean.Grind
/-- 1 .. h -/
def upTo (h : Nat) : List Nat := (List.range h).map (· + 1)
theorem mem_upTo {h i : Nat} : i ∈ upTo h ↔ 1 ≤ i ∧ i ≤ h := by
  unfold upTo
  rw [List.mem_map]
  constructor
  · rintro ⟨j, hj, rfl⟩
    rw [List.mem_range] at hj
    omega
  · rintro ⟨h1, h2⟩
    exact ⟨i - 1, List.mem_range.mpr (by omega), by omega⟩
theorem nodup_upTo (h : Nat) : (upTo h).Nodup := nodup_map List.nodup_range fun i _ j _ e => by omega
theorem len_upTo (h : Nat) : (upTo h).length = h := by simp [upTo]
/-- products of ints over lists -/
def pr (f : Nat → Int) (l : List Nat) : Int := prodL (l.map f)
theorem pr_nil (f : Nat → Int) : pr f [] = 1 := rfl
theorem pr_cons (f : Nat → Int) (a : Nat) (l : List Nat) : pr f (a :: l) = f a * pr f l := rfl
theorem pr_mul (f g : Nat → Int) : ∀ l, pr (fun i => f i * g i) l = pr f l * pr g l
  | [] => by simp [pr_nil]
  | a :: l => by rw [pr_cons, pr_cons, pr_cons, pr_mul f g l]; grind
theorem pr_congr {f g : Nat → Int} : ∀ {l : List Nat}, (∀ i ∈ l, f i = g i) → pr f l = pr g l
  | [], _ => rfl
  | a :: l, h => by rw [pr_cons, pr_cons, h a List.mem_cons_self, pr_congr fun i hi => h i (List.mem_cons_of_mem _ hi)]
theorem pr_perm {f : Nat → Int} {l m : List Nat} (h : l.Perm m) : pr f l = pr f m := prodL_perm (h.map f)
theorem pr_map (f : Nat → Int) (s : Nat → Nat) (l : List Nat) : pr f (l.map s) = pr (fun i => f (s i)) l := by
  unfold pr; rw [List.map_map]; rfl
theorem pr_app (f : Nat → Int) : ∀ l m : List Nat, pr f (l ++ m) = pr f l * pr f m
  | [], m => by simp [pr_nil]
  | a :: l, m => by rw [List.cons_append, pr_cons, pr_cons, pr_app f l m]; grind
def sg (n : Nat) : Int := (-1) ^ n
theorem sg_add (a b : Nat) : sg (a + b) = sg a * sg b := Int.pow_add ..
theorem sg_even {n : Nat} (h : n % 2 = 0) : sg n = 1 := by
  obtain ⟨k, rfl⟩ : ∃ k, n = 2 * k := ⟨n / 2, by omega⟩
  unfold sg
  rw [Int.pow_mul]
  show (1 : Int) ^ k = 1
  exact Int.one_pow
theorem sg_odd {n : Nat} (h : n % 2 = 1) : sg n = -1 := by
  obtain ⟨k, rfl⟩ : ∃ k, n = k + 1 := ⟨n - 1, by omega⟩
  rw [sg_add, sg_even (by omega)]
  rfl
theorem sg_eq {a b : Nat} (h : a % 2 = b % 2) : sg a = sg b := by
  rcases (by omega : a % 2 = 0 ∨ a % 2 = 1) with z | z
  · rw [sg_even z, sg_even (by omega)]
  · rw [sg_odd z, sg_odd (by omega)]
theorem sg_sq (a : Nat) : sg a * sg a = 1 := by rw [← sg_add, sg_even (by omega)]
/-! ### the count of the lemma -/
def eps (m b i : Nat) : Int := if m < 2 * (b * i % m) then -1 else 1
def sig (m b i : Nat) : Nat := if m < 2 * (b * i % m) then m - b * i % m else b * i % m
def G (m b : Nat) : Int := pr (eps m b) (upTo ((m - 1) / 2))
theorem eps_or (m b i : Nat) : eps m b i = 1 ∨ eps m b i = -1 := by unfold eps; split <;> simp
section
variable {m b : Nat} (ho : m % 2 = 1) (hc : Nat.gcd b m = 1)
include ho hc
theorem rest_ne {i : Nat} (h1 : 1 ≤ i) (h2 : i < m) : b * i % m ≠ 0 := fun z => by
  have h3 : m ∣ i := Nat.Coprime.dvd_of_dvd_mul_left (by rw [Nat.coprime_comm]; exact hc) (Nat.dvd_of_mod_eq_zero z)
  have := Nat.le_of_dvd (by omega) h3
  omega
theorem sig_mem {i : Nat} (h : i ∈ upTo ((m - 1) / 2)) : sig m b i ∈ upTo ((m - 1) / 2) := by
  rw [mem_upTo] at h ⊢
  have := rest_ne ho hc h.1 (by omega)
  have hl := Nat.mod_lt (b * i) (by omega : m > 0)
  unfold sig
  split <;> omega
theorem sig_inj {i j : Nat} (hi : i ∈ upTo ((m - 1) / 2)) (hj : j ∈ upTo ((m - 1) / 2)) (e : sig m b i = sig m b j) : i = j := by
  rw [mem_upTo] at hi hj
  have li := Nat.mod_lt (b * i) (by omega : m > 0)
  have lj := Nat.mod_lt (b * j) (by omega : m > 0)
  have key : ∀ i j : Nat, i ≤ j → j ≤ (m - 1) / 2 → b * i % m = b * j % m → i = j := fun i j h1 h2 z => by
    have h3 : m ∣ b * (j - i) := by
      rw [Nat.mul_sub]
      exact Nat.dvd_of_mod_eq_zero (Nat.sub_mod_eq_zero_of_mod_eq z.symm)
    have h4 : m ∣ j - i := Nat.Coprime.dvd_of_dvd_mul_left (by rw [Nat.coprime_comm]; exact hc) h3
    rcases Nat.eq_zero_or_pos (j - i) with w | w
    · omega
    · have := Nat.le_of_dvd w h4
      omega
  have key2 : b * i % m + b * j % m ≠ m := fun z => by
    have : (b * (i + j)) % m = 0 := by
      rw [Nat.mul_add, Nat.add_mod, z, Nat.mod_self]
    exact rest_ne ho hc (by omega) (by omega) this
  unfold sig at e
  split at e <;> split at e
  · rcases Nat.le_total i j with w | w
    · exact key i j w hj.2 (by omega)
    · exact (key j i w hi.2 (by omega)).symm
  · omega
  · omega
  · rcases Nat.le_total i j with w | w
    · exact key i j w hj.2 (by omega)
    · exact (key j i w hi.2 (by omega)).symm
theorem sig_perm : ((upTo ((m - 1) / 2)).map (sig m b)).Perm (upTo ((m - 1) / 2)) :=
  perm_of_sub (nodup_map (nodup_upTo _) fun i hi j hj e => sig_inj ho hc hi hj e) (nodup_upTo _) (fun x hx => by
    obtain ⟨i, hi, rfl⟩ := List.mem_map.mp hx
    exact sig_mem ho hc hi) (by rw [List.length_map]; exact Nat.le_refl _)
theorem eps_sig {i : Nat} (hi : i ∈ upTo ((m - 1) / 2)) : ∃ k : Int, (b * i : Int) = eps m b i * sig m b i + m * k := by
  rw [mem_upTo] at hi
  have hd := Nat.div_add_mod (b * i) m
  have hl := Nat.mod_lt (b * i) (by omega : m > 0)
  unfold eps sig
  have hd' : (b * i : Int) = m * (b * i / m : Nat) + (b * i % m : Nat) := by exact_mod_cast hd.symm
  split
  · refine ⟨(b * i / m : Nat) + 1, ?_⟩
    rw [hd', Int.natCast_sub (by omega)]
    generalize ((b * i / m : Nat) : Int) = q
    generalize ((b * i % m : Nat) : Int) = r
    grind
  · refine ⟨(b * i / m : Nat), ?_⟩
    rw [hd']
    generalize ((b * i / m : Nat) : Int) = q
    generalize ((b * i % m : Nat) : Int) = r
    grind
theorem eps_mul (a : Nat) (ha : Nat.gcd a m = 1) {i : Nat} (hi : i ∈ upTo ((m - 1) / 2)) : eps m (a * b) i = eps m b i * eps m a (sig m b i) := by
  have hs := sig_mem ho hc hi
  have hn := rest_ne ho ha (mem_upTo.mp hs).1 (by have := (mem_upTo.mp hs).2; omega)
  have hl := Nat.mod_lt (a * sig m b i) (by omega : m > 0)
  obtain ⟨k, hk⟩ := eps_sig ho hc hi
  have e : (a * b * i % m : Nat) = ((eps m b i * (a * sig m b i)) % m : Int) := by
    push_cast
    rw [Int.mul_assoc, hk, Int.mul_add, Int.add_emod]
    have : (a : Int) * (m * k) % m = 0 := by
      rw [Int.mul_left_comm]; exact Int.mul_emod_right _ _
    rw [this, Int.add_zero, Int.emod_emod]
    congr 1
    grind
  rcases eps_or m b i with z | z
  · rw [z, Int.one_mul] at e
    have e2 : a * b * i % m = a * sig m b i % m := by exact_mod_cast e
    rw [z, Int.one_mul]
    unfold eps
    rw [e2]
  · rw [z] at e ⊢
    have e2 : a * b * i % m = m - a * sig m b i % m := by
      have h1 : (-1 * ((a : Int) * sig m b i)) % m = m - (a * sig m b i % m : Nat) := by
        have hd : ((a : Int) * sig m b i) = m * (a * sig m b i / m : Nat) + (a * sig m b i % m : Nat) := by exact_mod_cast (Nat.div_add_mod (a * sig m b i) m).symm
        have h2 : -1 * ((a : Int) * sig m b i) = (m - (a * sig m b i % m : Nat)) + m * (-(a * sig m b i / m : Nat) - 1) := by
          rw [hd]
          generalize ((a * sig m b i / m : Nat) : Int) = q
          generalize ((a * sig m b i % m : Nat) : Int) = r
          grind
        rw [h2, Int.add_mul_emod_self_left, Int.emod_eq_of_lt (by omega) (by omega)]
      rw [h1] at e
      omega
    unfold eps
    rw [e2]
    by_cases w : m < 2 * (a * sig m b i % m)
    · rw [if_pos w, if_neg (by omega)]; rfl
    · rw [if_neg w, if_pos (by omega)]; rfl
theorem G_mul (a : Nat) (ha : Nat.gcd a m = 1) : G m (a * b) = G m a * G m b := by
  unfold G
  rw [pr_congr fun i hi => eps_mul ho hc a ha hi, pr_mul, ← pr_map (eps m a) (sig m b), pr_perm (sig_perm ho hc), Int.mul_comm]
end
theorem G_mod (m b : Nat) : G m (b % m) = G m b := by
  unfold G
  refine pr_congr fun i _ => ?_
  unfold eps
  rw [Nat.mod_mul_mod]
theorem G_or (m b : Nat) : G m b = 1 ∨ G m b = -1 := by
  unfold G
  generalize upTo ((m - 1) / 2) = l
  induction l with
  | nil => left; rfl
  | cons a l ih =>
    rw [pr_cons]
    rcases eps_or m b a with e | e <;> rcases ih with f | f <;> rw [e, f] <;> simp
theorem G_one (m : Nat) (ho : m % 2 = 1) : G m 1 = 1 := by
  unfold G
  have : pr (eps m 1) (upTo ((m - 1) / 2)) = pr (fun _ => 1) (upTo ((m - 1) / 2)) := pr_congr fun i hi => by
    rw [mem_upTo] at hi
    unfold eps
    rw [Nat.one_mul, Nat.mod_eq_of_lt (by omega), if_neg (by omega)]
  rw [this]
  generalize upTo ((m - 1) / 2) = l
  induction l with
  | nil => rfl
  | cons a l ih => rw [pr_cons, ih]; rfl
theorem upTo_succ (n : Nat) : upTo (n + 1) = upTo n ++ [n + 1] := by
  unfold upTo; rw [List.range_succ, List.map_append]; rfl
theorem pr_tail (t : Nat) : ∀ n : Nat, pr (fun i => if t < i then -1 else 1) (upTo n) = sg (n - t)
  | 0 => by simp [upTo, pr_nil, sg]
  | n + 1 => by
    rw [upTo_succ, pr_app, pr_tail t n, pr_cons, pr_nil, Int.mul_one]
    split
    · rw [show n + 1 - t = (n - t) + 1 by omega, sg_add]; rfl
    · rw [show n + 1 - t = 0 by omega, show n - t = 0 by omega, Int.mul_one]
theorem G_two (m : Nat) (ho : m % 2 = 1) : G m 2 = if m % 8 = 3 ∨ m % 8 = 5 then -1 else 1 := by
  have e : G m 2 = pr (fun i => if m / 4 < i then -1 else 1) (upTo ((m - 1) / 2)) := pr_congr fun i hi => by
    rw [mem_upTo] at hi
    unfold eps
    rw [Nat.mod_eq_of_lt (by omega)]
    by_cases w : m / 4 < i
    · rw [if_pos (by omega), if_pos w]
    · rw [if_neg (by omega), if_neg w]
  rw [e, pr_tail]
  split
  · exact sg_odd (by omega)
  · exact sg_even (by omega)
/-! ### Gauss -/
theorem fact_ne {p : Nat} (hp : Prime p) : ∀ (h : Nat), h < p → ¬ (p : Int) ∣ pr (fun i => (i : Int)) (upTo h)
  | 0, _ => fun z => by
    have := Int.le_of_dvd (by decide) z
    have h1 : pr (fun i => (i : Int)) (upTo 0) = 1 := rfl
    have := hp.1
    omega
  | h + 1, hl => fun z => by
    rw [upTo_succ, pr_app, pr_cons, pr_nil, Int.mul_one] at z
    rcases hp.dvd_mulI z with w | w
    · exact fact_ne hp h (by omega) w
    · have := Int.le_of_dvd (by omega) w
      omega
theorem pr_const (c : Int) : ∀ l : List Nat, pr (fun _ => c) l = c ^ l.length
  | [] => by rw [pr_nil, List.length_nil, Int.pow_zero]
  | a :: l => by rw [pr_cons, pr_const c l, List.length_cons, Int.pow_succ, Int.mul_comm]
theorem pr_modEq {p : Nat} {f g : Nat → Int} : ∀ {l : List Nat}, (∀ i ∈ l, (p : Int) ∣ f i - g i) → (p : Int) ∣ pr f l - pr g l
  | [], _ => by rw [pr_nil, pr_nil]; exact ⟨0, by omega⟩
  | a :: l, h => by
    rw [pr_cons, pr_cons]
    obtain ⟨s, hs⟩ := h a List.mem_cons_self
    obtain ⟨t, ht⟩ := pr_modEq fun i hi => h i (List.mem_cons_of_mem _ hi)
    refine ⟨s * pr f l + g a * t, ?_⟩
    have : f a * pr f l - g a * pr g l = (f a - g a) * pr f l + g a * (pr f l - pr g l) := by grind
    rw [this, hs, ht]; grind
theorem gauss {p b : Nat} (hp : Prime p) (ho : p % 2 = 1) (hc : ¬ p ∣ b) : (p : Int) ∣ (b : Int) ^ ((p - 1) / 2) - G p b := by
  have hcp : Nat.gcd b p = 1 := by
    rw [Nat.gcd_comm]
    rcases hp.gcd (a := b) with w | w
    · exact w
    · exact absurd w hc
  have h1 : (p : Int) ∣ pr (fun i => (b : Int) * i) (upTo ((p - 1) / 2)) - pr (fun i => eps p b i * sig p b i) (upTo ((p - 1) / 2)) := pr_modEq fun i hi => by
    obtain ⟨k, hk⟩ := eps_sig ho hcp hi
    exact ⟨k, by omega⟩
  rw [pr_mul, pr_mul, pr_const, len_upTo, ← pr_map (fun i => (i : Int)) (sig p b), pr_perm (sig_perm ho hcp)] at h1
  have e : (b : Int) ^ ((p - 1) / 2) * pr (fun i => (i : Int)) (upTo ((p - 1) / 2)) - pr (eps p b) (upTo ((p - 1) / 2)) * pr (fun i => (i : Int)) (upTo ((p - 1) / 2)) = ((b : Int) ^ ((p - 1) / 2) - G p b) * pr (fun i => (i : Int)) (upTo ((p - 1) / 2)) := by
    unfold G; grind
  rw [e] at h1
  rcases hp.dvd_mulI h1 with w | w
  · exact w
  · exact absurd w (fact_ne hp _ (by have := hp.1; omega))
end NT

namespace NT
open Lean.Grind
/-! ### sums -/
def sm : Nat → (Nat → Nat) → Nat
  | 0, _ => 0
  | n + 1, f => sm n f + f n
theorem sm_add (f g : Nat → Nat) : ∀ n, sm n (fun i => f i + g i) = sm n f + sm n g
  | 0 => rfl
  | n + 1 => by simp only [sm]; rw [sm_add f g n]; omega
theorem sm_congr {f g : Nat → Nat} : ∀ {n : Nat}, (∀ i, i < n → f i = g i) → sm n f = sm n g
  | 0, _ => rfl
  | n + 1, h => by simp only [sm]; rw [sm_congr fun i hi => h i (by omega), h n (by omega)]
theorem sm_const (c : Nat) : ∀ n, sm n (fun _ => c) = n * c
  | 0 => by simp [sm]
  | n + 1 => by simp only [sm]; rw [sm_const c n, Nat.succ_mul]
theorem sm_swap (f : Nat → Nat → Nat) (b : Nat) : ∀ a, sm a (fun i => sm b (f i)) = sm b (fun j => sm a (fun i => f i j))
  | 0 => by simp only [sm]; rw [sm_const]; simp
  | a + 1 => by
    simp only [sm]
    rw [sm_swap f b a, ← sm_add]
theorem sm_le (q : Nat) : ∀ k, sm k (fun j => if j + 1 ≤ q then 1 else 0) = min q k
  | 0 => by simp [sm]
  | k + 1 => by
    simp only [sm]
    rw [sm_le q k]
    split <;> omega
theorem sg_sm (f : Nat → Nat) : ∀ n, pr (fun i => sg (f (i - 1))) (upTo n) = sg (sm n f)
  | 0 => rfl
  | n + 1 => by
    rw [upTo_succ, pr_app, sg_sm f n, pr_cons, pr_nil, Int.mul_one]
    simp only [sm, Nat.add_sub_cancel]
    rw [sg_add]
section
variable {m n : Nat} (hm : m % 2 = 1) (hn : n % 2 = 1) (hc : Nat.gcd n m = 1)
include hm hn hc
theorem eisen : G m n = sg (sm ((m - 1) / 2) fun i => n * (i + 1) / m) := by
  have h1 : pr (fun i => sg i) (upTo ((m - 1) / 2)) = pr (fun i => (sg (n * i / m) * sg (sig m n i)) * eps m n i) (upTo ((m - 1) / 2)) := pr_congr fun i hi => by
    have hs := mem_upTo.mp (sig_mem hm hc hi)
    have hl := Nat.mod_lt (n * i) (by omega : m > 0)
    have hd := Nat.div_add_mod (n * i) m
    have par : i % 2 = (n * i / m + n * i % m) % 2 := by
      have e1 : (n * i) % 2 = i % 2 := by rw [Nat.mul_mod, hn, Nat.one_mul, Nat.mod_mod]
      have e2 : (m * (n * i / m)) % 2 = (n * i / m) % 2 := by rw [Nat.mul_mod, hm, Nat.one_mul, Nat.mod_mod]
      omega
    rw [← sg_add]
    unfold eps
    unfold sig at hs ⊢
    split
    · rename_i w
      rw [if_pos w] at hs
      rw [show (-1 : Int) = sg 1 from rfl, ← sg_add]
      exact sg_eq (by omega)
    · rename_i w
      rw [Int.mul_one]
      exact sg_eq par
  rw [pr_mul, pr_mul, ← pr_map (fun i => sg i) (sig m n), pr_perm (sig_perm hm hc)] at h1
  have h2 : pr (fun i => sg (n * i / m)) (upTo ((m - 1) / 2)) = sg (sm ((m - 1) / 2) fun i => n * (i + 1) / m) := by
    rw [← sg_sm]
    exact pr_congr fun i hi => by
      have := (mem_upTo.mp hi).1
      rw [show i - 1 + 1 = i by omega]
  rw [h2] at h1
  have h3 : ∀ l : List Nat, pr (fun i => sg i) l * pr (fun i => sg i) l = 1 := fun l => by
    rw [← pr_mul, pr_congr (g := fun _ => 1) fun i _ => sg_sq i, pr_const, Int.one_pow]
  have h4 := h3 (upTo ((m - 1) / 2))
  have h5 := sg_sq (sm ((m - 1) / 2) fun i => n * (i + 1) / m)
  unfold G
  generalize pr (fun i => sg i) (upTo ((m - 1) / 2)) = x at *
  generalize pr (eps m n) (upTo ((m - 1) / 2)) = y at *
  generalize sg (sm ((m - 1) / 2) fun i => n * (i + 1) / m) = z at *
  have e1 : x * x = z * x * y * x := by rw [← h1]
  have e2 : z * x * y * x = z * y * (x * x) := by grind
  rw [e2, h4, Int.mul_one] at e1
  have e3 : z * (z * y) = z * 1 := by rw [← e1]
  have e4 : z * (z * y) = z * z * y := by grind
  rw [e4, h5, Int.one_mul, Int.mul_one] at e3
  exact e3
theorem lattice : (sm ((m - 1) / 2) fun i => n * (i + 1) / m) + (sm ((n - 1) / 2) fun j => m * (j + 1) / n) = (m - 1) / 2 * ((n - 1) / 2) := by
  have f1 : ∀ a b : Nat, a % 2 = 1 → b % 2 = 1 → ∀ i, i < (a - 1) / 2 → b * (i + 1) / a = sm ((b - 1) / 2) fun j => if a * (j + 1) ≤ b * (i + 1) then 1 else 0 := fun a b ha hb i hi => by
    have e : (sm ((b - 1) / 2) fun j => if a * (j + 1) ≤ b * (i + 1) then 1 else 0) = sm ((b - 1) / 2) fun j => if j + 1 ≤ b * (i + 1) / a then 1 else 0 := sm_congr fun j _ => by
      have : (j + 1 ≤ b * (i + 1) / a) ↔ (a * (j + 1) ≤ b * (i + 1)) := by rw [Nat.le_div_iff_mul_le (by omega), Nat.mul_comm]
      by_cases w : a * (j + 1) ≤ b * (i + 1)
      · rw [if_pos w, if_pos (this.mpr w)]
      · rw [if_neg w, if_neg fun z => w (this.mp z)]
    rw [e, sm_le]
    have : b * (i + 1) / a ≤ (b - 1) / 2 := by
      have h1 : b * (i + 1) / a < (b - 1) / 2 + 1 := by
        rw [Nat.div_lt_iff_lt_mul (by omega)]
        have h2 : b * (2 * (i + 1)) ≤ b * (a - 1) := Nat.mul_le_mul_left b (by omega)
        have h3 : b * (2 * (i + 1)) = 2 * (b * (i + 1)) := by rw [Nat.mul_left_comm]
        have h4 : b * (a - 1) + b = b * a := by rw [← Nat.mul_succ]; congr 1; omega
        have h5 : ((b - 1) / 2 + 1) * 2 = b + 1 := by omega
        have h6 : 2 * (((b - 1) / 2 + 1) * a) = (b + 1) * a := by rw [← h5]; simp only [Nat.mul_assoc, Nat.mul_comm, Nat.mul_left_comm]
        have h7 : (b + 1) * a = b * a + a := by rw [Nat.succ_mul]
        omega
      omega
    omega
  rw [sm_congr fun i hi => f1 m n hm hn i hi, sm_swap, sm_congr fun j hj => f1 n m hn hm j hj, ← sm_add]
  have e : (sm ((n - 1) / 2) fun j => (sm ((m - 1) / 2) fun i => if m * (j + 1) ≤ n * (i + 1) then 1 else 0) + sm ((m - 1) / 2) fun i => if n * (i + 1) ≤ m * (j + 1) then 1 else 0) = sm ((n - 1) / 2) fun _ => (m - 1) / 2 := sm_congr fun j hj => by
    rw [← sm_add]
    have : (sm ((m - 1) / 2) fun i => (if m * (j + 1) ≤ n * (i + 1) then 1 else 0) + if n * (i + 1) ≤ m * (j + 1) then 1 else 0) = sm ((m - 1) / 2) fun _ => 1 := sm_congr fun i hi => by
      have ne : m * (j + 1) ≠ n * (i + 1) := fun z => by
        have h1 : m ∣ i + 1 := Nat.Coprime.dvd_of_dvd_mul_left (by rw [Nat.coprime_comm]; exact hc) ⟨j + 1, z.symm⟩
        have := Nat.le_of_dvd (by omega) h1
        omega
      rcases Nat.lt_or_gt_of_ne ne with w | w
      · rw [if_pos (by omega), if_neg (by omega)]
      · rw [if_neg (by omega), if_pos (by omega)]
    rw [this, sm_const, Nat.mul_one]
  rw [e, sm_const, Nat.mul_comm]
theorem reciprocity : G m n = (if m % 4 = 3 ∧ n % 4 = 3 then -1 else 1) * G n m := by
  have h1 := eisen hm hn hc
  have h2 := eisen hn hm (by rw [Nat.gcd_comm]; exact hc)
  have h3 := lattice hm hn hc
  have h4 : G m n * G n m = sg ((m - 1) / 2 * ((n - 1) / 2)) := by rw [h1, h2, ← sg_add, h3]
  have h5 : sg ((m - 1) / 2 * ((n - 1) / 2)) = if m % 4 = 3 ∧ n % 4 = 3 then -1 else 1 := by
    split
    · refine sg_odd ?_
      rw [Nat.mul_mod, show (m - 1) / 2 % 2 = 1 by omega, show (n - 1) / 2 % 2 = 1 by omega]
    · refine sg_even ?_
      rcases (by omega : (m - 1) / 2 % 2 = 0 ∨ (n - 1) / 2 % 2 = 0) with w | w
      · rw [Nat.mul_mod, w]; simp
      · rw [Nat.mul_mod, w]; simp
  rw [h5] at h4
  rw [← h4]
  rcases G_or n m with e | e <;> rw [e] <;> grind
end
/-! ### the symbol -/
def J (b : Int) (m : Nat) : Int := if Nat.gcd b.natAbs m = 1 then G m (b % m).toNat else 0
theorem gcd_emod (b : Int) (m : Nat) : Nat.gcd (b % m).natAbs m = Nat.gcd b.natAbs m := by
  have e := Int.mul_ediv_add_emod b m
  apply Nat.dvd_antisymm
  · refine Nat.dvd_gcd ?_ (Nat.gcd_dvd_right _ _)
    rw [← int_dvd_nat]
    have h1 : ((Nat.gcd (b % m).natAbs m : Nat) : Int) ∣ b % m := int_dvd_nat.mpr (Nat.gcd_dvd_left _ _)
    have h2 : ((Nat.gcd (b % m).natAbs m : Nat) : Int) ∣ m := Int.natCast_dvd_natCast.mpr (Nat.gcd_dvd_right _ _)
    have h3 := Int.dvd_add (Int.dvd_trans h2 ⟨b / m, rfl⟩) h1
    rwa [e] at h3
  · refine Nat.dvd_gcd ?_ (Nat.gcd_dvd_right _ _)
    rw [← int_dvd_nat]
    have h1 : ((Nat.gcd b.natAbs m : Nat) : Int) ∣ b := int_dvd_nat.mpr (Nat.gcd_dvd_left _ _)
    have h2 : ((Nat.gcd b.natAbs m : Nat) : Int) ∣ m := Int.natCast_dvd_natCast.mpr (Nat.gcd_dvd_right _ _)
    have h3 := Int.dvd_sub h1 (Int.dvd_trans h2 ⟨b / m, rfl⟩)
    have e2 : b - m * (b / m) = b % m := by omega
    rwa [e2] at h3
theorem pow_sub_dvd (a c : Int) : ∀ n : Nat, a - c ∣ a ^ n - c ^ n
  | 0 => ⟨0, by simp⟩
  | n + 1 => by
    obtain ⟨k, hk⟩ := pow_sub_dvd a c n
    refine ⟨k * a + c ^ n, ?_⟩
    rw [Int.pow_succ, Int.pow_succ]
    have : a ^ n * a - c ^ n * c = (a ^ n - c ^ n) * a + c ^ n * (a - c) := by grind
    rw [this, hk]; grind
theorem J_mod (b : Int) (m : Nat) : J (b % m) m = J b m := by
  unfold J
  simp only [gcd_emod, Int.emod_emod]
theorem J_nat (b m : Nat) (h : Nat.gcd b m = 1) : J b m = G m b := by
  unfold J
  rw [Int.natAbs_natCast, if_pos h, ← G_mod m b]
  congr 1
theorem J_nat0 (b m : Nat) (h : Nat.gcd b m ≠ 1) : J b m = 0 := by
  unfold J
  rw [Int.natAbs_natCast, if_neg h]
theorem J_even (b m : Nat) (hm : m % 2 = 1) : J ((2 * b : Nat) : Int) m = (if m % 8 = 3 ∨ m % 8 = 5 then -1 else 1) * J b m := by
  have g2 : Nat.gcd 2 m = 1 := by
    rcases prime_two.gcd (a := m) with w | w
    · exact w
    · omega
  have hg : Nat.gcd (2 * b) m = Nat.gcd b m := Nat.Coprime.gcd_mul_left_cancel b g2
  by_cases h : Nat.gcd b m = 1
  · rw [J_nat _ _ (by rw [hg]; exact h), J_nat _ _ h, G_mul hm h 2 g2, G_two m hm]
  · rw [J_nat0 _ _ (by rw [hg]; exact h), J_nat0 _ _ h, Int.mul_zero]
theorem J_swap (b m : Nat) (hm : m % 2 = 1) (hb : b % 2 = 1) : J b m = (if b % 4 = 3 ∧ m % 4 = 3 then -1 else 1) * J m b := by
  by_cases h : Nat.gcd b m = 1
  · rw [J_nat _ _ h, J_nat _ _ (by rw [Nat.gcd_comm]; exact h), reciprocity hm hb h]
    congr 1
    by_cases w : b % 4 = 3 ∧ m % 4 = 3
    · rw [if_pos w, if_pos ⟨w.2, w.1⟩]
    · rw [if_neg w, if_neg fun z => w ⟨z.2, z.1⟩]
  · rw [J_nat0 _ _ h, J_nat0 _ _ (by rw [Nat.gcd_comm]; exact h), Int.mul_zero]
theorem J_one (m : Nat) (hm : m % 2 = 1) : J 1 m = 1 := by
  have := J_nat 1 m (by simp)
  rw [G_one m hm] at this
  exact this
theorem J_by_one (b : Int) : J b 1 = 1 := by
  unfold J
  rw [if_pos (by simp)]
  rfl
theorem J_zero (m : Nat) (h : 1 < m) : J 0 m = 0 := by
  have := J_nat0 0 m (by rw [Nat.gcd_zero_left]; omega)
  exact this
/-- at a prime: Euler's criterion -/
theorem J_euler {p : Nat} (hp : Prime p) (ho : p % 2 = 1) (b : Int) (hb : ¬ (p : Int) ∣ b) : (p : Int) ∣ b ^ ((p - 1) / 2) - J b p := by
  obtain ⟨c, hc⟩ : ∃ c : Nat, b % p = c := ⟨(b % p).toNat, by have := Int.emod_nonneg b (by have := hp.1; omega : (p : Int) ≠ 0); omega⟩
  have hcd : ¬ p ∣ c := fun z => hb (by
    have h1 : (p : Int) ∣ b % p := by rw [hc]; exact Int.natCast_dvd_natCast.mpr z
    have h2 := Int.dvd_add (Int.dvd_mul_right (p : Int) (b / p)) h1
    rwa [Int.mul_ediv_add_emod] at h2)
  have hg : Nat.gcd c p = 1 := by
    rw [Nat.gcd_comm]
    rcases hp.gcd (a := c) with w | w
    · exact w
    · exact absurd w hcd
  have h1 := gauss hp ho hcd
  rw [← J_nat c p hg, ← hc, J_mod] at h1
  have h2 : (p : Int) ∣ b ^ ((p - 1) / 2) - (b % p) ^ ((p - 1) / 2) := by
    refine Int.dvd_trans ?_ (pow_sub_dvd b (b % p) _)
    exact ⟨b / p, by have := Int.mul_ediv_add_emod b p; omega⟩
  have e : b ^ ((p - 1) / 2) - J b p = (b ^ ((p - 1) / 2) - (b % p) ^ ((p - 1) / 2)) + ((b % p) ^ ((p - 1) / 2) - J b p) := by omega
  rw [e]
  exact Int.dvd_add h2 h1
end NT

namespace NT
open Lean.Grind
theorem lu_A (P Q : Int) (m : Nat) : ∀ n : Nat, lu P Q (m + n + 1) = lu P Q (m + 1) * lu P Q (n + 1) - Q * lu P Q m * lu P Q n ∧ lu P Q (m + n + 2) = lu P Q (m + 1) * lu P Q (n + 2) - Q * lu P Q m * lu P Q (n + 1)
  | 0 => by
    have e2 : lu P Q (0 + 2) = P * 1 - Q * 0 := rfl
    have e3 : lu P Q (m + 0 + 2) = P * lu P Q (m + 1) - Q * lu P Q m := rfl
    rw [e2, e3]
    simp only [lu, Nat.add_zero]
    exact ⟨by grind, by grind⟩
  | n + 1 => by
    obtain ⟨h1, h2⟩ := lu_A P Q m n
    refine ⟨h2, ?_⟩
    have e1 : lu P Q (m + (n + 1) + 2) = P * lu P Q (m + n + 2) - Q * lu P Q (m + n + 1) := rfl
    have e2 : lu P Q (n + 1 + 2) = P * lu P Q (n + 2) - Q * lu P Q (n + 1) := rfl
    have e3 : lu P Q (n + 1 + 1) = P * lu P Q (n + 1) - Q * lu P Q n := rfl
    have e4 : lu P Q (n + 2) = P * lu P Q (n + 1) - Q * lu P Q n := rfl
    rw [e1, h1, h2, e2, e3]
    grind
theorem lu_B (P Q : Int) (m : Nat) : ∀ n : Nat, lu P Q (m + n) = lu P Q m * lu P Q (n + 1) + lu P Q (m + 1) * lu P Q n - P * lu P Q m * lu P Q n ∧ lu P Q (m + n + 1) = lu P Q m * lu P Q (n + 2) + lu P Q (m + 1) * lu P Q (n + 1) - P * lu P Q m * lu P Q (n + 1)
  | 0 => by
    have e2 : lu P Q (0 + 2) = P * 1 - Q * 0 := rfl
    rw [e2]
    simp only [lu, Nat.add_zero]
    exact ⟨by grind, by grind⟩
  | n + 1 => by
    obtain ⟨h1, h2⟩ := lu_B P Q m n
    refine ⟨h2, ?_⟩
    have e1 : lu P Q (m + (n + 1) + 1) = P * lu P Q (m + n + 1) - Q * lu P Q (m + n) := rfl
    have e2 : lu P Q (n + 1 + 2) = P * lu P Q (n + 2) - Q * lu P Q (n + 1) := rfl
    have e3 : lu P Q (n + 1 + 1) = P * lu P Q (n + 1) - Q * lu P Q n := rfl
    have e4 : lu P Q (n + 2) = P * lu P Q (n + 1) - Q * lu P Q n := rfl
    rw [e1, h1, h2, e2, e3]
    grind
theorem lu_double (P Q : Int) (k : Nat) : lu P Q (2 * k) = lu P Q k * (2 * lu P Q (k + 1) - P * lu P Q k) ∧ lu P Q (2 * k + 1) = lu P Q (k + 1) * lu P Q (k + 1) - Q * lu P Q k * lu P Q k := by
  have h1 := (lu_B P Q k k).1
  have h2 := (lu_A P Q k k).1
  rw [← Nat.two_mul] at h1 h2
  exact ⟨by rw [h1]; grind, h2⟩
def lv (P Q : Int) (n : Nat) : Int := 2 * lu P Q (n + 1) - P * lu P Q n
theorem lv_zero (P Q : Int) : lv P Q 0 = 2 := by simp [lv, lu]
theorem lv_one (P Q : Int) : lv P Q 1 = P := by
  have e2 : lu P Q (1 + 1) = P * 1 - Q * 0 := rfl
  unfold lv
  rw [e2]
  simp only [lu]
  omega
theorem lv_step (P Q : Int) (n : Nat) : lv P Q (n + 2) = P * lv P Q (n + 1) - Q * lv P Q n := by
  unfold lv
  have e1 : lu P Q (n + 2 + 1) = P * lu P Q (n + 2) - Q * lu P Q (n + 1) := rfl
  have e2 : lu P Q (n + 1 + 1) = P * lu P Q (n + 1) - Q * lu P Q n := rfl
  have e3 : lu P Q (n + 2) = P * lu P Q (n + 1) - Q * lu P Q n := rfl
  rw [e1, e2]
  grind
theorem cI_mod {m : Nat} [NeZero m] (a : Int) : (cI (a % m) : Fin m) = cI a := by rw [cast_eq, Int.emod_emod]
/-- the table of the n-th power of the step, its numbers -/
def mt1 (P Q : Int) (n : Nat) : Int := lu P Q (n + 1)
def mt2 (P Q : Int) (n : Nat) : Int := 0 - Q * lu P Q n
def mt3 (P Q : Int) (n : Nat) : Int := lu P Q n
def mt4 (P Q : Int) (n : Nat) : Int := lu P Q (n + 1) - P * lu P Q n
theorem mt_mul (P Q : Int) (i j : Nat) : mt1 P Q i * mt1 P Q j + mt2 P Q i * mt3 P Q j = mt1 P Q (i + j) ∧ mt1 P Q i * mt2 P Q j + mt2 P Q i * mt4 P Q j = mt2 P Q (i + j) ∧
    mt3 P Q i * mt1 P Q j + mt4 P Q i * mt3 P Q j = mt3 P Q (i + j) ∧ mt3 P Q i * mt2 P Q j + mt4 P Q i * mt4 P Q j = mt4 P Q (i + j) := by
  have a := (lu_A P Q i j).1
  have b := (lu_B P Q i j).1
  unfold mt1 mt2 mt3 mt4
  rw [a, b]
  exact ⟨by grind, by grind, by grind, by grind⟩
/-- the rows depend on their numbers by m -/
theorem lu_congr {P Q P' Q' : Int} {m : Nat} (hm : 1 ≤ m) (h1 : P % m = P' % m) (h2 : Q % m = Q' % m) : ∀ n, lu P Q n % m = lu P' Q' n % m ∧ lu P Q (n + 1) % m = lu P' Q' (n + 1) % m := by
  have : NeZero m := ⟨by omega⟩
  rw [← cast_eq] at h1 h2
  intro n
  rw [← cast_eq, ← cast_eq]
  induction n with
  | zero => exact ⟨rfl, rfl⟩
  | succ n ih =>
    refine ⟨ih.2, ?_⟩
    have e1 : lu P Q (n + 1 + 1) = P * lu P Q (n + 1) - Q * lu P Q n := rfl
    have e2 : lu P' Q' (n + 1 + 1) = P' * lu P' Q' (n + 1) - Q' * lu P' Q' n := rfl
    rw [e1, e2, cI_sub, cI_sub, cI_mul, cI_mul, cI_mul, cI_mul, h1, h2, ih.1, ih.2]
end NT

namespace PI
open PySem L2
/-! ### greatest_shared raised power_by least_factor parts_of rows_of _has_full_order _paper factors is_prime rows_right _right_prime next_step symbol_claim symbol _doubled _by _shows above above_right _law_by _law_least _law_is_prime _law_prime _law_rows_right _law_paper_right -/
def bgreatest_shared_0 : MSs := (.cons (.par 0 1 (.var 1) (.bin .mod (.var 0) (.var 1)))
  .nil)
def cgreatest_shared_0 : ME := (.cmp (.var 1) (.cons .ne (.cst (.int 0)) .nil))
def c_greatest_shared : Def := ⟨"greatest_shared", 2, 2,
  (.cons (.set (.name 0) (.blt .abs (.cons (.var 0) .nil)))
  (.cons (.set (.name 1) (.blt .abs (.cons (.var 1) .nil)))
  (.cons (.while cgreatest_shared_0 bgreatest_shared_0)
  (.cons (.ret (.var 0))
  .nil))))⟩
def braised_0 : MSs := (.cons (.ite (.cmp (.bin .mod (.var 1) (.cst (.int 2))) (.cons .eq (.cst (.int 1)) .nil)) (.cons (.set (.name 2) (.bin .mul (.var 2) (.var 0)))
  .nil) .nil)
  (.cons (.set (.name 1) (.bin .fdiv (.var 1) (.cst (.int 2))))
  (.cons (.ite (.cmp (.var 1) (.cons .gt (.cst (.int 0)) .nil)) (.cons (.set (.name 0) (.bin .mul (.var 0) (.var 0)))
  .nil) .nil)
  .nil)))
def craised_0 : ME := (.cmp (.var 1) (.cons .gt (.cst (.int 0)) .nil))
def c_raised : Def := ⟨"raised", 2, 3,
  (.cons (.set (.name 2) (.cst (.int 1)))
  (.cons (.while craised_0 braised_0)
  (.cons (.ret (.var 2))
  .nil)))⟩
def bpower_by_0 : MSs := (.cons (.ite (.cmp (.bin .mod (.var 1) (.cst (.int 2))) (.cons .eq (.cst (.int 1)) .nil)) (.cons (.set (.name 3) (.bin .mod (.bin .mul (.var 3) (.var 0)) (.var 2)))
  .nil) .nil)
  (.cons (.set (.name 0) (.bin .mod (.bin .mul (.var 0) (.var 0)) (.var 2)))
  (.cons (.set (.name 1) (.bin .fdiv (.var 1) (.cst (.int 2))))
  .nil)))
def cpower_by_0 : ME := (.cmp (.var 1) (.cons .gt (.cst (.int 0)) .nil))
def c_power_by : Def := ⟨"power_by", 3, 4,
  (.cons (.set (.name 3) (.bin .mod (.cst (.int 1)) (.var 2)))
  (.cons (.set (.name 0) (.bin .mod (.var 0) (.var 2)))
  (.cons (.while cpower_by_0 bpower_by_0)
  (.cons (.ret (.var 3))
  .nil))))⟩
def bleast_factor_0 : MSs := (.cons (.ite (.cmp (.bin .mod (.var 0) (.var 1)) (.cons .eq (.cst (.int 0)) .nil)) (.cons (.ret (.var 1))
  .nil) .nil)
  (.cons (.aug 1 .add (.cst (.int 2)))
  .nil))
def cleast_factor_0 : ME := (.cmp (.bin .mul (.var 1) (.var 1)) (.cons .le (.var 0) .nil))
def c_least_factor : Def := ⟨"least_factor", 1, 2,
  (.cons (.ite (.cmp (.bin .mod (.var 0) (.cst (.int 2))) (.cons .eq (.cst (.int 0)) .nil)) (.cons (.ret (.cst (.int 2)))
  .nil) .nil)
  (.cons (.set (.name 1) (.cst (.int 3)))
  (.cons (.while cleast_factor_0 bleast_factor_0)
  (.cons (.ret (.var 0))
  .nil))))⟩
def bparts_of_1 : MSs := (.cons (.set (.name 0) (.bin .fdiv (.var 0) (.var 2)))
  (.cons (.aug 3 .add (.cst (.int 1)))
  .nil))
def cparts_of_1 : ME := (.cmp (.bin .mod (.var 0) (.var 2)) (.cons .eq (.cst (.int 0)) .nil))
def bparts_of_0 : MSs := (.cons (.set (.name 2) (.call "least_factor" (.cons (.var 0) .nil)))
  (.cons (.set (.name 3) (.cst (.int 0)))
  (.cons (.while cparts_of_1 bparts_of_1)
  (.cons (.app (.var 1) (.tup (.cons (.var 2) (.cons (.var 3) .nil))))
  .nil))))
def cparts_of_0 : ME := (.cmp (.var 0) (.cons .gt (.cst (.int 1)) .nil))
def c_parts_of : Def := ⟨"parts_of", 1, 4,
  (.cons (.set (.name 1) (.lst .nil))
  (.cons (.while cparts_of_0 bparts_of_0)
  (.cons (.ret (.var 1))
  .nil)))⟩
def c_rows_of : Def := ⟨"rows_of", 1, 3,
  (.cons (.ret (.blt .tuple (.cons (.lc (.tup (.cons (.var 1) (.cons (.var 2) (.cons (.call "_paper" (.cons (.var 1) .nil)) .nil)))) (.tup [1, 2]) (.seq (.call "parts_of" (.cons (.var 0) .nil))) .none) .nil)))
  .nil)⟩
def c__has_full_order : Def := ⟨"_has_full_order", 3, 5,
  (.cons (.ret (.bop true (.cons (.cmp (.call "power_by" (.cons (.var 0) (.cons (.bin .sub (.var 1) (.cst (.int 1))) (.cons (.var 1) .nil)))) (.cons .eq (.cst (.int 1)) .nil)) (.cons (.blt .all (.cons (.lc (.cmp (.call "power_by" (.cons (.var 0) (.cons (.bin .fdiv (.bin .sub (.var 1) (.cst (.int 1))) (.var 3)) (.cons (.var 1) .nil)))) (.cons .ne (.cst (.int 1)) .nil)) (.tup [3, 4]) (.seq (.var 2)) .none) .nil)) .nil))))
  .nil)⟩
def b_paper_0 : MSs := (.cons (.aug 2 .add (.cst (.int 1)))
  .nil)
def c_paper_0 : ME := (.bop true (.cons (.not (.call "_has_full_order" (.cons (.var 2) (.cons (.var 0) (.cons (.var 1) .nil))))) (.cons (.cmp (.var 0) (.cons .gt (.cst (.int 2)) .nil)) .nil)))
def c__paper : Def := ⟨"_paper", 1, 3,
  (.cons (.set (.name 1) (.call "parts_of" (.cons (.bin .sub (.var 0) (.cst (.int 1))) .nil)))
  (.cons (.set (.name 2) (.cst (.int 1)))
  (.cons (.while c_paper_0 b_paper_0)
  (.cons (.ret (.tup (.cons (.cst (.str "prime")) (.cons (.var 0) (.cons (.var 2) (.cons (.call "rows_of" (.cons (.bin .sub (.var 0) (.cst (.int 1))) .nil)) .nil))))))
  .nil))))⟩
def c_factors : Def := ⟨"factors", 1, 1,
  (.cons (.ite (.cmp (.var 0) (.cons .lt (.cst (.int 1)) .nil)) (.cons (.raise "BadNumber" 0 (.cst (.str "number")))
  .nil) .nil)
  (.cons (.ite (.cmp (.var 0) (.cons .gt (.glb "MOST" 10000000000) .nil)) (.cons (.raise "TooLarge" 1 (.cst (.str "number")))
  .nil) .nil)
  (.cons (.ret (.tup (.cons (.cst (.str "factors")) (.cons (.var 0) (.cons (.call "rows_of" (.cons (.var 0) .nil)) .nil)))))
  .nil)))⟩
def c_is_prime : Def := ⟨"is_prime", 1, 1,
  (.cons (.ret (.bop true (.cons (.cmp (.var 0) (.cons .gt (.cst (.int 1)) .nil)) (.cons (.cmp (.call "least_factor" (.cons (.var 0) .nil)) (.cons .eq (.var 0) .nil)) .nil))))
  .nil)⟩
def brows_right_0 : MSs := (.cons (.ite (.bop false (.cons (.cmp (.var 4) (.cons .le (.var 3) .nil)) (.cons (.cmp (.var 5) (.cons .lt (.cst (.int 1)) .nil)) (.cons (.cmp (.idx (.var 6) (.cst (.int 1))) (.cons .ne (.var 4) .nil)) (.cons (.not (.call "_right_prime" (.cons (.var 6) .nil))) .nil))))) (.cons (.ret (.cst (.bl false)))
  .nil) .nil)
  (.cons (.ite (.cmp (.var 5) (.cons .gt (.blt .bits (.cons (.var 0) .nil)) .nil)) (.cons (.ret (.cst (.bl false)))
  .nil) .nil)
  (.cons (.set (.name 2) (.bin .mul (.var 2) (.call "raised" (.cons (.var 4) (.cons (.var 5) .nil)))))
  (.cons (.set (.name 3) (.var 4))
  .nil))))
def c_rows_right : Def := ⟨"rows_right", 2, 7,
  (.cons (.set (.name 2) (.cst (.int 1)))
  (.cons (.set (.name 3) (.cst (.int 1)))
  (.cons (.for (.tup [4, 5, 6]) (.seq (.var 1)) brows_right_0)
  (.cons (.ret (.cmp (.var 2) (.cons .eq (.var 0) .nil)))
  .nil))))⟩
def c__right_prime : Def := ⟨"_right_prime", 1, 6,
  (.cons (.set (.tup [1, 2, 3, 4]) (.var 0))
  (.cons (.ite (.bop false (.cons (.cmp (.var 2) (.cons .lt (.cst (.int 2)) .nil)) (.cons (.not (.call "rows_right" (.cons (.bin .sub (.var 2) (.cst (.int 1))) (.cons (.var 4) .nil)))) .nil))) (.cons (.ret (.cst (.bl false)))
  .nil) .nil)
  (.cons (.ite (.cmp (.call "power_by" (.cons (.var 3) (.cons (.bin .sub (.var 2) (.cst (.int 1))) (.cons (.var 2) .nil)))) (.cons .ne (.cst (.int 1)) .nil)) (.cons (.ret (.cst (.bl false)))
  .nil) .nil)
  (.cons (.ret (.blt .all (.cons (.lc (.cmp (.call "power_by" (.cons (.var 3) (.cons (.bin .fdiv (.bin .sub (.var 2) (.cst (.int 1))) (.var 5)) (.cons (.var 2) .nil)))) (.cons .ne (.cst (.int 1)) .nil)) (.tup [5, 1, 1]) (.seq (.var 4)) .none) .nil)))
  .nil))))⟩
def c_next_step : Def := ⟨"next_step", 1, 4,
  (.cons (.set (.tup [1, 2, 3]) (.var 0))
  (.cons (.ite (.bop false (.cons (.cmp (.var 1) (.cons .isin (.tup (.cons (.cst (.int 0)) (.cons (.cst (.int 1)) .nil))) .nil)) (.cons (.cmp (.var 2) (.cons .eq (.cst (.int 1)) .nil)) .nil))) (.cons (.ret (.cst .non))
  .nil) .nil)
  (.cons (.ite (.not (.cmp (.cst (.int 0)) (.cons .le (.var 1) (.cons .lt (.var 2) .nil)))) (.cons (.ret (.tup (.cons (.bin .mod (.var 1) (.var 2)) (.cons (.var 2) (.cons (.var 3) .nil)))))
  .nil) .nil)
  (.cons (.ite (.cmp (.bin .mod (.var 1) (.cst (.int 2))) (.cons .eq (.cst (.int 0)) .nil)) (.cons (.ite (.cmp (.bin .mod (.var 2) (.cst (.int 8))) (.cons .isin (.tup (.cons (.cst (.int 3)) (.cons (.cst (.int 5)) .nil))) .nil)) (.cons (.set (.name 3) (.bin .sub (.cst (.int 0)) (.var 3)))
  .nil) .nil)
  (.cons (.ret (.tup (.cons (.bin .fdiv (.var 1) (.cst (.int 2))) (.cons (.var 2) (.cons (.var 3) .nil)))))
  .nil)) .nil)
  (.cons (.ite (.bop true (.cons (.cmp (.bin .mod (.var 1) (.cst (.int 4))) (.cons .eq (.cst (.int 3)) .nil)) (.cons (.cmp (.bin .mod (.var 2) (.cst (.int 4))) (.cons .eq (.cst (.int 3)) .nil)) .nil))) (.cons (.set (.name 3) (.bin .sub (.cst (.int 0)) (.var 3)))
  .nil) .nil)
  (.cons (.ret (.tup (.cons (.var 2) (.cons (.var 1) (.cons (.var 3) .nil)))))
  .nil))))))⟩
def bsymbol_claim_0 : MSs := (.cons (.app (.var 2) (.var 3))
  (.cons (.set (.name 3) (.call "next_step" (.cons (.var 3) .nil)))
  .nil))
def csymbol_claim_0 : ME := (.cmp (.var 3) (.cons .isnot (.cst .non) .nil))
def c_symbol_claim : Def := ⟨"symbol_claim", 2, 4,
  (.cons (.expr (.call "_checked" (.cons (.var 1) .nil)))
  (.cons (.set (.name 2) (.lst (.cons (.tup (.cons (.var 0) (.cons (.var 1) (.cons (.cst (.int 1)) .nil)))) .nil)))
  (.cons (.set (.name 3) (.call "next_step" (.cons (.idx (.var 2) (.cst (.int 0))) .nil)))
  (.cons (.while csymbol_claim_0 bsymbol_claim_0)
  (.cons (.ret (.tup (.cons (.cst (.str "symbol")) (.cons (.var 0) (.cons (.var 1) (.cons (.call "_told" (.cons (.idx (.var 2) (.neg (.cst (.int 1)))) .nil)) (.cons (.blt .tuple (.cons (.var 2) .nil)) .nil)))))))
  .nil)))))⟩
def c_symbol : Def := ⟨"symbol", 2, 2,
  (.cons (.ret (.idx (.call "symbol_claim" (.cons (.var 0) (.cons (.var 1) .nil))) (.cst (.int 3))))
  .nil)⟩
def c__doubled : Def := ⟨"_doubled", 4, 6,
  (.cons (.set (.tup [4, 5]) (.var 3))
  (.cons (.ret (.tup (.cons (.bin .mod (.bin .mul (.var 4) (.bin .sub (.bin .mul (.cst (.int 2)) (.var 5)) (.bin .mul (.var 0) (.var 4)))) (.var 2)) (.cons (.bin .mod (.bin .sub (.bin .mul (.var 5) (.var 5)) (.bin .mul (.bin .mul (.var 1) (.var 4)) (.var 4))) (.var 2)) .nil))))
  .nil))⟩
def b_by_0 : MSs := (.cons (.set (.name 4) (.call "_doubled" (.cons (.var 0) (.cons (.var 1) (.cons (.var 3) (.cons (.var 4) .nil))))))
  (.cons (.ite (.cmp (.bin .mod (.bin .fdiv (.var 2) (.call "raised" (.cons (.cst (.int 2)) (.cons (.var 5) .nil)))) (.cst (.int 2))) (.cons .eq (.cst (.int 1)) .nil)) (.cons (.set (.name 4) (.tup (.cons (.idx (.var 4) (.cst (.int 1))) (.cons (.bin .mod (.bin .sub (.bin .mul (.var 0) (.idx (.var 4) (.cst (.int 1)))) (.bin .mul (.var 1) (.idx (.var 4) (.cst (.int 0))))) (.var 3)) .nil))))
  .nil) .nil)
  .nil))
def c__by : Def := ⟨"_by", 4, 6,
  (.cons (.set (.name 4) (.tup (.cons (.cst (.int 0)) (.cons (.bin .mod (.cst (.int 1)) (.var 3)) .nil))))
  (.cons (.for (.name 5) (.rng3 (.bin .sub (.blt .bits (.cons (.var 2) .nil)) (.cst (.int 1))) (.neg (.cst (.int 1))) (.neg (.cst (.int 1)))) b_by_0)
  (.cons (.ret (.var 4))
  .nil)))⟩
def c__shows : Def := ⟨"_shows", 4, 5,
  (.cons (.ite (.bop false (.cons (.cmp (.call "greatest_shared" (.cons (.var 0) (.cons (.bin .mul (.bin .mul (.cst (.int 2)) (.var 2)) (.bin .sub (.bin .mul (.var 1) (.var 1)) (.bin .mul (.cst (.int 4)) (.var 2)))) .nil))) (.cons .ne (.cst (.int 1)) .nil)) (.cons (.cmp (.idx (.call "_by" (.cons (.var 1) (.cons (.var 2) (.cons (.bin .add (.var 0) (.cst (.int 1))) (.cons (.var 0) .nil))))) (.cst (.int 0))) (.cons .ne (.cst (.int 0)) .nil)) .nil))) (.cons (.ret (.cst (.bl false)))
  .nil) .nil)
  (.cons (.ret (.blt .all (.cons (.lc (.cmp (.call "greatest_shared" (.cons (.idx (.call "_by" (.cons (.var 1) (.cons (.var 2) (.cons (.bin .fdiv (.bin .add (.var 0) (.cst (.int 1))) (.var 4)) (.cons (.var 0) .nil))))) (.cst (.int 0))) (.cons (.var 0) .nil))) (.cons .eq (.cst (.int 1)) .nil)) (.name 4) (.seq (.var 3)) .none) .nil)))
  .nil))⟩
def babove_1 : MSs := (.cons (.set (.name 4) (.bin .sub (.var 3) (.var 2)))
  (.cons (.ite (.bop true (.cons (.cmp (.call "symbol" (.cons (.bin .sub (.bin .mul (.var 3) (.var 3)) (.bin .mul (.cst (.int 4)) (.var 4))) (.cons (.var 0) .nil))) (.cons .eq (.neg (.cst (.int 1))) .nil)) (.cons (.call "_shows" (.cons (.var 0) (.cons (.var 3) (.cons (.var 4) (.cons (.var 1) .nil))))) .nil))) (.cons (.ret (.tup (.cons (.cst (.str "above")) (.cons (.var 0) (.cons (.var 3) (.cons (.var 4) (.cons (.call "rows_of" (.cons (.bin .add (.var 0) (.cst (.int 1))) .nil)) .nil)))))))
  .nil) .nil)
  .nil))
def babove_0 : MSs := (.cons (.for (.name 3) (.rng2 (.cst (.int 1)) (.var 2)) babove_1)
  (.cons (.aug 2 .add (.cst (.int 1)))
  .nil))
def cabove_0 : ME := (.cst (.bl true))
def c_above : Def := ⟨"above", 1, 7,
  (.cons (.ite (.bop false (.cons (.cmp (.var 0) (.cons .lt (.cst (.int 3)) .nil)) (.cons (.cmp (.bin .mod (.var 0) (.cst (.int 2))) (.cons .eq (.cst (.int 0)) .nil)) .nil))) (.cons (.raise "BadNumber" 0 (.cst (.str "number")))
  .nil) .nil)
  (.cons (.ite (.cmp (.var 0) (.cons .gt (.glb "MOST_ABOVE" 1000000000) .nil)) (.cons (.raise "TooLarge" 1 (.cst (.str "number")))
  .nil) .nil)
  (.cons (.ite (.not (.call "is_prime" (.cons (.var 0) .nil))) (.cons (.raise "BadNumber" 0 (.cst (.str "number")))
  .nil) .nil)
  (.cons (.set (.name 1) (.lc (.var 5) (.tup [5, 6]) (.seq (.call "parts_of" (.cons (.bin .add (.var 0) (.cst (.int 1))) .nil))) .none))
  (.cons (.set (.name 2) (.cst (.int 2)))
  (.cons (.while cabove_0 babove_0)
  .nil))))))⟩
def c_above_right : Def := ⟨"above_right", 1, 7,
  (.cons (.set (.tup [1, 2, 3, 4, 5]) (.var 0))
  (.cons (.ite (.bop false (.cons (.cmp (.var 2) (.cons .lt (.cst (.int 3)) .nil)) (.cons (.cmp (.bin .mod (.var 2) (.cst (.int 2))) (.cons .eq (.cst (.int 0)) .nil)) (.cons (.not (.call "rows_right" (.cons (.bin .add (.var 2) (.cst (.int 1))) (.cons (.var 5) .nil)))) .nil)))) (.cons (.ret (.cst (.bl false)))
  .nil) .nil)
  (.cons (.ret (.call "_shows" (.cons (.var 2) (.cons (.var 3) (.cons (.var 4) (.cons (.lc (.var 6) (.tup [6, 1, 1]) (.seq (.var 5)) .none) .nil))))))
  .nil)))⟩
def b_law_by_0 : MSs := (.cons (.ite (.cmp (.var 1) (.cons .gt (.cst (.int 0)) .nil)) (.cons (.ite (.cmp (.bin .mod (.blt .int (.cons (.var 1) .nil)) (.cst (.int 2))) (.cons .eq (.cst (.int 1)) .nil)) (.cons (.set (.name 3) (.bin .mod (.blt .int (.cons (.bin .mul (.var 3) (.var 4)) .nil)) (.var 2)))
  .nil) .nil)
  (.cons (.set (.name 4) (.bin .mod (.blt .int (.cons (.bin .mul (.var 4) (.var 4)) .nil)) (.var 2)))
  (.cons (.set (.name 1) (.bin .fdiv (.var 1) (.cst (.int 2))))
  .nil))) .nil)
  .nil)
def c__law_by : Def := ⟨"_law_by", 3, 6,
  (.cons (.set (.name 3) (.bin .mod (.blt .int (.cons (.cst (.int 1)) .nil)) (.var 2)))
  (.cons (.set (.name 4) (.bin .mod (.blt .int (.cons (.var 0) .nil)) (.var 2)))
  (.cons (.for (.name 5) (.rng1 (.cst (.int 400))) b_law_by_0)
  (.cons (.ret (.var 3))
  .nil))))⟩
def b_law_least_0 : MSs := (.cons (.ite (.cmp (.bin .mul (.var 1) (.var 1)) (.cons .gt (.var 0) .nil)) (.cons .brk
  .nil) .nil)
  (.cons (.ite (.cmp (.bin .mod (.blt .int (.cons (.var 0) .nil)) (.var 1)) (.cons .eq (.cst (.int 0)) .nil)) (.cons (.ret (.var 1))
  .nil) .nil)
  .nil))
def c__law_least : Def := ⟨"_law_least", 1, 2,
  (.cons (.for (.name 1) (.rng2 (.cst (.int 2)) (.cst (.int 100002))) b_law_least_0)
  (.cons (.ret (.var 0))
  .nil))⟩
def c__law_is_prime : Def := ⟨"_law_is_prime", 1, 1,
  (.cons (.ret (.bop true (.cons (.cmp (.var 0) (.cons .gt (.cst (.int 1)) .nil)) (.cons (.cmp (.call "_law_least" (.cons (.var 0) .nil)) (.cons .eq (.var 0) .nil)) .nil))))
  .nil)⟩
def b_law_prime_0 : MSs := (.cons (.ite (.not (.call "_law_is_prime" (.cons (.var 2) .nil))) (.cons (.set (.name 2) (.bin .sub (.var 2) (.cst (.int 1))))
  .nil) .nil)
  .nil)
def c__law_prime : Def := ⟨"_law_prime", 2, 4,
  (.cons (.set (.name 2) (.bin .add (.cst (.int 2)) (.call "_law_draw" (.cons (.var 0) (.cons (.bin .sub (.var 1) (.cst (.int 1))) .nil)))))
  (.cons (.for (.name 3) (.rng1 (.cst (.int 400))) b_law_prime_0)
  (.cons (.ret (.var 2))
  .nil)))⟩
def b_law_rows_right_1 : MSs := (.cons (.set (.name 2) (.bin .mul (.var 2) (.var 4)))
  (.cons (.ite (.cmp (.var 2) (.cons .gt (.var 0) .nil)) (.cons (.ret (.cst (.bl false)))
  .nil) .nil)
  .nil))
def b_law_rows_right_0 : MSs := (.cons (.ite (.bop false (.cons (.cmp (.var 4) (.cons .le (.var 3) .nil)) (.cons (.cmp (.var 5) (.cons .lt (.cst (.int 1)) .nil)) (.cons (.cmp (.var 5) (.cons .gt (.cst (.int 300)) .nil)) (.cons (.cmp (.idx (.var 6) (.cst (.int 1))) (.cons .ne (.var 4) .nil)) (.cons (.not (.call "_law_paper_right" (.cons (.var 6) .nil))) .nil)))))) (.cons (.ret (.cst (.bl false)))
  .nil) .nil)
  (.cons (.for (.name 7) (.rng1 (.var 5)) b_law_rows_right_1)
  (.cons (.set (.name 3) (.var 4))
  .nil)))
def c__law_rows_right : Def := ⟨"_law_rows_right", 2, 8,
  (.cons (.set (.name 2) (.cst (.int 1)))
  (.cons (.set (.name 3) (.cst (.int 1)))
  (.cons (.for (.tup [4, 5, 6]) (.seq (.var 1)) b_law_rows_right_0)
  (.cons (.ret (.cmp (.var 2) (.cons .eq (.var 0) .nil)))
  .nil))))⟩
def c__law_paper_right : Def := ⟨"_law_paper_right", 1, 5,
  (.cons (.set (.tup [1, 2, 3]) (.slc (.var 0) (.some (.cst (.int 1))) .none))
  (.cons (.ite (.bop false (.cons (.cmp (.var 1) (.cons .lt (.cst (.int 2)) .nil)) (.cons (.not (.call "_law_rows_right" (.cons (.bin .sub (.var 1) (.cst (.int 1))) (.cons (.var 3) .nil)))) (.cons (.cmp (.call "_law_by" (.cons (.var 2) (.cons (.bin .sub (.var 1) (.cst (.int 1))) (.cons (.var 1) .nil)))) (.cons .ne (.cst (.int 1)) .nil)) .nil)))) (.cons (.ret (.cst (.bl false)))
  .nil) .nil)
  (.cons (.ret (.cmp (.cst (.bl true)) (.cons .notin (.lc (.cmp (.call "_law_by" (.cons (.var 2) (.cons (.bin .fdiv (.bin .sub (.var 1) (.cst (.int 1))) (.idx (.var 4) (.cst (.int 0)))) (.cons (.var 1) .nil)))) (.cons .eq (.cst (.int 1)) .nil)) (.name 4) (.seq (.var 3)) .none) .nil)))
  .nil)))⟩
end PI

namespace PI
open PySem L2
/-- a comprehension by an invariant of its turns -/
theorem lcR_I {Φ : Fns} {tg : MT} {cond : MO} {elt : ME} (I : S → Prop) (f : D → Option D) (items : List D) (s : S) (hl : items.length ≤ line) (hs : I s)
    (h : ∀ d ∈ items, ∀ s, I s → ∃ s', turnL Φ tg cond elt d s = .ok (f d) s' ∧ I s') :
    ∃ s', I s' ∧ lcR Φ elt tg cond items s = .ok (.own (items.filterMap f)) { s' with t := backT s'.t s.t tg.ids } := by
  obtain ⟨s', e, hI⟩ := lcGo_fm I f items [] s h (by simpa using hl) hs
  refine ⟨s', hI, ?_⟩
  unfold lcR
  rw [e]
  simp
theorem mulOk_lt {i j : Int} (hi : i.natAbs < 2 ^ 400000) (hj : j.natAbs < 2 ^ 400000) : mulOk i j = true := by
  simp only [mulOk, Bool.or_eq_true, decide_eq_true_eq]
  right
  have lg : ∀ n : Nat, n < 2 ^ 400000 → n.log2 < 400001 := fun n hn => by
    by_cases z : n = 0
    · rw [z, Nat.log2_zero]; omega
    · have := (Nat.log2_lt z).mpr hn
      omega
  have h1 := lg _ hi
  have h2 := lg _ hj
  omega
theorem q_gcd {fs : List Def} (hl : lookD fs "greatest_shared" = some c_greatest_shared) (k : Nat) (x y : Int) (h : List (List D)) : Phi fs (k + 1) "greatest_shared" [.int x, .int y] h = .ok (.val (.int (Nat.gcd x.natAbs y.natAbs))) h := by
  rw [Phi_run hl rfl]
  obtain ⟨a0, ha0⟩ : ∃ a0, x.natAbs = a0 := ⟨_, rfl⟩
  obtain ⟨b0, hb0⟩ : ∃ b0, y.natAbs = b0 := ⟨_, rfl⟩
  have loop := ex_while (Φ := Phi fs k) (c := cgreatest_shared_0) (b := bgreatest_shared_0)
    (fun s => ∃ a b : Nat, s = ⟨[some (.val (.int a)), some (.val (.int b))], h⟩ ∧ Nat.gcd a b = Nat.gcd a0 b0)
    (fun s => (intAt 1 s).toNat)
    (fun r => ∃ b, r = .next ⟨[some (.val (.int (Nat.gcd a0 b0))), b], h⟩) (fun s hI => by
      obtain ⟨a, b, rfl, hg⟩ := hI
      by_cases hb : b = 0
      · subst hb
        rw [Nat.gcd_zero_right] at hg
        subst hg
        simp [cgreatest_shared_0]
      · have hb' : ¬ ((b : Int) = 0) := by omega
        simp [cgreatest_shared_0, bgreatest_shared_0, hb', hb, bin_modI, fmod_nat]
        refine ⟨⟨b, a % b, ⟨rfl, rfl⟩, ?_⟩, Nat.mod_lt _ (Nat.pos_of_ne_zero hb)⟩
        rw [← hg, Nat.gcd_comm b, ← Nat.gcd_rec, Nat.gcd_comm])
    ⟨[some (.val (.int a0)), some (.val (.int b0))], h⟩ ⟨a0, b0, rfl, rfl⟩
  obtain ⟨b, e⟩ := loop
  simp only [ha0, hb0]
  simp [c_greatest_shared, startT, abs_if, ha0, hb0, e]
theorem q_raised {fs : List Def} (hl : lookD fs "raised" = some c_raised) (k : Nat) (b e : Nat) (hbe : b ^ e < 2 ^ 400000) (h : List (List D)) : Phi fs (k + 1) "raised" [.int b, .int e] h = .ok (.val (.int ((b ^ e : Nat) : Int))) h := by
  rw [Phi_run hl rfl]
  have loop := ex_loop (Φ := Phi fs k) (c := craised_0) (b := braised_0)
    (fun s => ∃ bs ex r : Nat, s = ⟨[some (.val (.int bs)), some (.val (.int ex)), some (.val (.int r))], h⟩ ∧ r * bs ^ ex = b ^ e ∧ ((b = 0 ∧ bs = 0 ∧ r ≤ 1) ∨ (1 ≤ bs ∧ 1 ≤ r)))
    (fun s => (intAt 1 s).toNat)
    (fun r => ∃ x y, r = .next ⟨[x, y, some (.val (.int ((b ^ e : Nat) : Int)))], h⟩) (fun s hI => by
      obtain ⟨bs, ex, r, rfl, hg, hb⟩ := hI
      by_cases hx : ex = 0
      · subst hx
        rw [Nat.pow_zero, Nat.mul_one] at hg
        subst hg
        exact .inl ⟨⟨[some (.val (.int bs)), some (.val (.int (0 : Nat))), some (.val (.int ((b ^ e : Nat) : Int)))], h⟩, by simp [craised_0], _, _, rfl⟩
      · have hx' : 0 < ex := by omega
        have big : bs < 2 ^ 400000 ∧ r < 2 ^ 400000 := by
          rcases hb with ⟨h1, h2, h3⟩ | ⟨h1, h2⟩
          · subst h2
            have : (1 : Nat) < 2 ^ 400000 := Nat.one_lt_two_pow (by omega)
            exact ⟨by omega, by omega⟩
          · have h3 : bs ≤ bs ^ ex := Nat.le_self_pow (by omega) bs
            have h4 : bs ^ ex ≤ r * bs ^ ex := Nat.le_mul_of_pos_left _ h2
            have h5 : r ≤ r * bs ^ ex := Nat.le_mul_of_pos_right _ (Nat.pow_pos h1)
            exact ⟨by omega, by omega⟩
        have m1 : mulOk (r : Int) (bs : Int) = true := mulOk_lt (by simpa using big.2) (by simpa using big.1)
        have m2 : mulOk (bs : Int) (bs : Int) = true := mulOk_lt (by simpa using big.1) (by simpa using big.1)
        have d2 : divOk 2 = true := by decide
        have f2 : ((ex : Int)).fmod 2 = ((ex % 2 : Nat) : Int) := fmod_nat ex 2
        have g2 : ((ex : Int)).fdiv 2 = ((ex / 2 : Nat) : Int) := by rw [Int.fdiv_eq_ediv_of_nonneg _ (by omega)]; omega
        have pw : bs ^ ex = (bs * bs) ^ (ex / 2) * bs ^ (ex % 2) := by
          rw [← Nat.pow_two, ← Nat.pow_mul, ← Nat.pow_add, Nat.div_add_mod]
        have hb2 : ∀ r' bs' : Nat, (r' = r ∨ r' = r * bs) → (bs' = bs ∨ bs' = bs * bs) → ((b = 0 ∧ bs' = 0 ∧ r' ≤ 1) ∨ (1 ≤ bs' ∧ 1 ≤ r')) := fun r' bs' h1 h2 => by
          rcases hb with ⟨q1, q2, q3⟩ | ⟨q1, q2⟩
          · left
            subst q2
            refine ⟨q1, ?_, ?_⟩
            · rcases h2 with h2 | h2 <;> simp [h2]
            · rcases h1 with h1 | h1
              · rw [h1]; exact q3
              · rw [h1]; simp
          · right
            have q3 : 1 ≤ bs * bs := Nat.mul_le_mul q1 q1
            have q4 : 1 ≤ r * bs := Nat.mul_le_mul q2 q1
            rcases h1 with h1 | h1 <;> rcases h2 with h2 | h2 <;> rw [h1, h2] <;> exact ⟨by assumption, by assumption⟩
        have lt2 : ex / 2 < ex := by omega
        have dm := Nat.div_add_mod ex 2
        have ml := Nat.mod_lt ex (by omega : 2 > 0)
        generalize ex / 2 = e2 at pw lt2 g2 dm
        generalize ex % 2 = em at pw f2 dm ml
        refine .inr ⟨⟨[some (.val (.int bs)), some (.val (.int ex)), some (.val (.int r))], h⟩, by simp [craised_0, hx'], .inl ?_⟩
        have go : ∀ r' bs' : Nat, (r' = r ∨ r' = r * bs) → (bs' = bs ∨ bs' = bs * bs) → r' * bs' ^ e2 = b ^ e → ∀ q : R, q = .next ⟨[some (.val (.int bs')), some (.val (.int (e2 : Int))), some (.val (.int r'))], h⟩ →
            ∃ s2, q = .next s2 ∧ (∃ bs ex r : Nat, s2 = ⟨[some (.val (.int bs)), some (.val (.int ex)), some (.val (.int r))], h⟩ ∧ r * bs ^ ex = b ^ e ∧ ((b = 0 ∧ bs = 0 ∧ r ≤ 1) ∨ (1 ≤ bs ∧ 1 ≤ r))) ∧ (intAt 1 s2).toNat < (intAt 1 (⟨[some (.val (.int bs)), some (.val (.int ex)), some (.val (.int r))], h⟩ : S)).toNat :=
          fun r' bs' h1 h2 h3 q hq => ⟨_, hq, ⟨bs', e2, r', rfl, h3, hb2 r' bs' h1 h2⟩, by simp only [intAt_mk, List.getElem?_cons_succ, List.getElem?_cons_zero]; simpa using lt2⟩
        by_cases c1 : em = 1
        · have c1' : (em : Int) = 1 := by omega
          rw [c1, Nat.pow_one] at pw
          by_cases c2 : e2 = 0
          · refine go (r * bs) bs (.inr rfl) (.inl rfl) (by rw [c2, Nat.pow_zero, Nat.mul_one, ← hg, pw, c2, Nat.pow_zero, Nat.one_mul]) _ ?_
            have c2' : ¬ (0 < e2) := by omega
            simp [braised_0, f2, g2, c1', c2', m1, bin_mulI, bin_modI, bin_fdivI, d2]
          · refine go (r * bs) (bs * bs) (.inr rfl) (.inr rfl) (by rw [← hg, pw, Nat.mul_comm ((bs * bs) ^ e2), Nat.mul_assoc]) _ ?_
            have c2' : 0 < e2 := by omega
            simp [braised_0, f2, g2, c1', c2', m1, m2, bin_mulI, bin_modI, bin_fdivI, d2]
        · have c1' : ¬ (em : Int) = 1 := by omega
          have c0 : em = 0 := by omega
          rw [c0, Nat.pow_zero, Nat.mul_one] at pw
          refine go r (bs * bs) (.inl rfl) (.inr rfl) (by rw [← hg, pw]) _ ?_
          have c2' : 0 < e2 := by omega
          simp [braised_0, f2, g2, c1', c2', m1, m2, bin_mulI, bin_modI, bin_fdivI, d2])
    ⟨[some (.val (.int b)), some (.val (.int e)), some (.val (.int 1))], h⟩ ⟨b, e, 1, rfl, by rw [Nat.one_mul], by omega⟩
  obtain ⟨x, y, e1⟩ := loop
  simp [c_raised, startT, e1]
theorem big_add {B : Nat} {i j : Int} (hi : i.natAbs < 2 ^ B) (hj : j.natAbs < 2 ^ B) : (i - j).natAbs < 2 ^ (B + 1) ∧ (i + j).natAbs < 2 ^ (B + 1) := by
  rw [Nat.pow_succ]; omega
theorem big_mul {A B : Nat} {i j : Int} (hi : i.natAbs < 2 ^ A) (hj : j.natAbs < 2 ^ B) : (i * j).natAbs < 2 ^ (A + B) := by
  rw [Int.natAbs_mul, Nat.pow_add]
  exact Nat.mul_lt_mul'' hi hj
theorem big_le {A B : Nat} {i : Int} (h : A ≤ B) (hi : i.natAbs < 2 ^ A) : i.natAbs < 2 ^ B := Nat.lt_of_lt_of_le hi (Nat.pow_le_pow_right (by omega) h)
end PI

namespace PI
open PySem L2
theorem nat_lt {a b : Nat} (h : a < b) : ((a : Nat) : Int).toNat < ((b : Nat) : Int).toNat := by rw [Int.toNat_natCast, Int.toNat_natCast]; exact h
theorem sqI (x : Int) : x ^ 2 = x * x := by rw [Int.pow_succ, Int.pow_succ, Int.pow_zero, Int.one_mul]
theorem mod_pow (a : Int) (n : Nat) (k : Nat) : (a % n) ^ k % n = a ^ k % n := by
  have h1 := NT.pow_sub_dvd (a % n) a k
  have h2 : (n : Int) ∣ a % n - a := by
    refine ⟨-(a / n), ?_⟩
    have h3 := Int.mul_ediv_add_emod a n
    rw [Int.mul_neg]
    omega
  have h3 := Int.dvd_trans h2 h1
  exact Int.emod_eq_emod_iff_emod_sub_eq_zero.mpr (Int.emod_eq_zero_of_dvd h3)
theorem fmodN (a : Int) (n : Nat) : a.fmod n = a % n := Int.fmod_eq_emod_of_nonneg _ (by omega)
theorem mod_ne {n : Nat} (hn : 1 ≤ n) (a : Int) : binD .mod (.int a) (.int (n : Int)) = some (.val (.int (a % n))) := by
  rw [bin_modI (by omega), fmodN]
theorem mul64 {a b : Int} (h : a.natAbs < 2 ^ 64) : binD .mul (.int a) (.int b) = some (.val (.int (a * b))) := bin_mulI (by simp only [mulOk, Bool.or_eq_true, decide_eq_true_eq]; exact .inl (.inl h))
theorem mod2 (e : Nat) : binD .mod (.int (e : Int)) (.int 2) = some (.val (.int ((e % 2 : Nat) : Int))) := by
  have := mod_ne (n := 2) (by omega) (e : Int)
  rw [show ((2 : Nat) : Int) = 2 from rfl] at this
  rw [this]; simp
theorem div2 (e : Nat) : binD .fdiv (.int (e : Int)) (.int 2) = some (.val (.int ((e / 2 : Nat) : Int))) := by
  rw [bin_fdivI (by decide), Int.fdiv_eq_ediv_of_nonneg _ (by omega)]; simp
theorem pow_step {b bs r : Int} {e ex n : Nat} (hg : (r * bs ^ ex) % n = b ^ e % n) :
    (ex % 2 = 1 → ((r * bs % n) * (bs * bs % n) ^ (ex / 2)) % n = b ^ e % n) ∧ (ex % 2 = 0 → (r * (bs * bs % n) ^ (ex / 2)) % n = b ^ e % n) := by
  have pw : bs ^ ex = (bs * bs) ^ (ex / 2) * bs ^ (ex % 2) := by
    rw [← sqI, ← Int.pow_mul, ← Int.pow_add, Nat.div_add_mod]
  constructor
  · intro h
    rw [h, Int.pow_one] at pw
    rw [Int.mul_emod, Int.emod_emod, mod_pow, ← Int.mul_emod, ← hg, pw]
    congr 1
    grind
  · intro h
    rw [h, Int.pow_zero, Int.mul_one] at pw
    rw [Int.mul_emod, mod_pow, ← Int.mul_emod, ← hg, pw]
theorem res_bd {a : Int} {n : Nat} (hn : 1 ≤ n) (hn2 : n < 2 ^ 64) : (a % n).natAbs < 2 ^ 64 := by
  have h1 := Int.emod_nonneg a (by omega : (n : Int) ≠ 0)
  have h2 := Int.emod_lt_of_pos a (by omega : (0 : Int) < n)
  omega
theorem q_power {fs : List Def} (hl : lookD fs "power_by" = some c_power_by) (k : Nat) (b : Int) (e n : Nat) (hn : 1 ≤ n) (hn2 : n < 2 ^ 64) (h : List (List D)) :
    Phi fs (k + 1) "power_by" [.int b, .int e, .int n] h = .ok (.val (.int (b ^ e % n))) h := by
  rw [Phi_run hl rfl]
  have md := mod_ne hn
  have loop := ex_loop (Φ := Phi fs k) (c := cpower_by_0) (b := bpower_by_0)
    (fun s => ∃ (bs r : Int) (ex : Nat), s = ⟨[some (.val (.int (bs % n))), some (.val (.int ex)), some (.val (.int n)), some (.val (.int (r % n)))], h⟩ ∧ (r * bs ^ ex) % n = b ^ e % n)
    (fun s => (intAt 1 s).toNat)
    (fun q => ∃ x y z, q = .next ⟨[x, y, z, some (.val (.int (b ^ e % n)))], h⟩) (fun s hI => by
      obtain ⟨bs, r, ex, rfl, hg⟩ := hI
      by_cases hx : ex = 0
      · subst hx
        rw [Int.pow_zero, Int.mul_one] at hg
        exact .inl ⟨_, by simp [cpower_by_0]; rfl, _, _, _, by rw [hg]⟩
      · have hx' : 0 < ex := by omega
        have s1 : ((r % n) * (bs % n) ^ ex) % n = b ^ e % n := by
          rw [Int.mul_emod, Int.emod_emod, mod_pow, ← Int.mul_emod]; exact hg
        obtain ⟨p1, p2⟩ := pow_step s1
        have m1 := mul64 (b := bs % n) (res_bd (a := r) hn hn2)
        have m2 := mul64 (b := bs % n) (res_bd (a := bs) hn hn2)
        have d2 := div2 ex
        have e2 := mod2 ex
        have lt2 : ex / 2 < ex := by omega
        rcases (by omega : ex % 2 = 1 ∨ ex % 2 = 0) with c | c
        · have p := p1 c
          rw [c] at e2
          refine .inr ⟨_, by simp [cpower_by_0, hx']; rfl, .inl ⟨⟨[some (.val (.int ((bs % n) * (bs % n) % n))), some (.val (.int ((ex / 2 : Nat) : Int))), some (.val (.int n)), some (.val (.int ((r % n) * (bs % n) % n)))], h⟩, ?_, ⟨_, _, ex / 2, rfl, ?_⟩, by simp only [intAt_mk, List.getElem?_cons_succ, List.getElem?_cons_zero]; exact nat_lt lt2⟩⟩
          · generalize ex / 2 = x2 at *
            simp [bpower_by_0, e2, m1, m2, md, d2]
          · rw [Int.mul_emod, mod_pow, ← Int.mul_emod] at p
            rw [Int.mul_emod, Int.emod_emod, ← Int.mul_emod] at p
            exact p
        · have p := p2 c
          rw [c] at e2
          refine .inr ⟨_, by simp [cpower_by_0, hx']; rfl, .inl ⟨⟨[some (.val (.int ((bs % n) * (bs % n) % n))), some (.val (.int ((ex / 2 : Nat) : Int))), some (.val (.int n)), some (.val (.int (r % n)))], h⟩, ?_, ⟨_, _, ex / 2, rfl, ?_⟩, by simp only [intAt_mk, List.getElem?_cons_succ, List.getElem?_cons_zero]; exact nat_lt lt2⟩⟩
          · generalize ex / 2 = x2 at *
            simp [bpower_by_0, e2, m1, m2, md, d2]
          · rw [Int.mul_emod, mod_pow, ← Int.mul_emod] at p
            rw [Int.mul_emod, Int.emod_emod, ← Int.mul_emod] at p
            exact p)
    ⟨[some (.val (.int (b % n))), some (.val (.int e)), some (.val (.int n)), some (.val (.int (1 % n)))], h⟩ ⟨b, 1, e, rfl, by rw [Int.one_mul]⟩
  obtain ⟨x, y, z, e1⟩ := loop
  simp [c_power_by, startT, md, e1]
theorem q_law_by {fs : List Def} (hl : lookD fs "_law_by" = some c__law_by) (k : Nat) (b : Int) (e n : Nat) (hn : 1 ≤ n) (hn2 : n < 2 ^ 64) (he : e < 2 ^ 400) (h : List (List D)) :
    Phi fs (k + 1) "_law_by" [.int b, .int e, .int n] h = .ok (.val (.int (b ^ e % n))) h := by
  rw [Phi_run hl rfl]
  have md := mod_ne hn
  obtain ⟨s', e1, bs, r, ex, z, rfl, hg, hle⟩ := forR_all (Φ := Phi fs k) (t := .name 5) (b := b_law_by_0) (rangeD 0 400)
    (fun i s => ∃ (bs r : Int) (ex : Nat) (z : Option Sl), s = ⟨[some (.val (.int b)), some (.val (.int ex)), some (.val (.int n)), some (.val (.int (r % n))), some (.val (.int (bs % n))), z], h⟩ ∧ (r * bs ^ ex) % n = b ^ e % n ∧ ex * 2 ^ i ≤ e) (fun i d s _ hI => by
      obtain ⟨bs, r, ex, z, rfl, hg, hle⟩ := hI
      by_cases hx : ex = 0
      · subst hx
        exact ⟨_, rfl, _, by simp [b_law_by_0]; rfl, bs, r, 0, _, rfl, hg, by simp⟩
      · have hx' : 0 < ex := by omega
        have s1 : ((r % n) * (bs % n) ^ ex) % n = b ^ e % n := by
          rw [Int.mul_emod, Int.emod_emod, mod_pow, ← Int.mul_emod]; exact hg
        obtain ⟨p1, p2⟩ := pow_step s1
        have m1 := mul64 (b := bs % n) (res_bd (a := r) hn hn2)
        have m2 := mul64 (b := bs % n) (res_bd (a := bs) hn hn2)
        have d2 := div2 ex
        have e2 := mod2 ex
        have le2 : ex / 2 * 2 ^ (i + 1) ≤ e := by
          rw [Nat.pow_succ, Nat.mul_comm (2 ^ i) 2, ← Nat.mul_assoc]
          exact Nat.le_trans (Nat.mul_le_mul_right _ (by omega)) hle
        rcases (by omega : ex % 2 = 1 ∨ ex % 2 = 0) with c | c
        · have p := p1 c
          rw [c] at e2
          refine ⟨_, rfl, ⟨[some (.val (.int b)), some (.val (.int ((ex / 2 : Nat) : Int))), some (.val (.int n)), some (.val (.int ((r % n) * (bs % n) % n))), some (.val (.int ((bs % n) * (bs % n) % n))), some (.val d)], h⟩, ?_, _, _, ex / 2, _, rfl, ?_, le2⟩
          · generalize ex / 2 = x2 at *
            simp [b_law_by_0, hx', e2, m1, m2, md, d2]
          · rw [Int.mul_emod, mod_pow, ← Int.mul_emod] at p
            rw [Int.mul_emod, Int.emod_emod, ← Int.mul_emod] at p
            exact p
        · have p := p2 c
          rw [c] at e2
          refine ⟨_, rfl, ⟨[some (.val (.int b)), some (.val (.int ((ex / 2 : Nat) : Int))), some (.val (.int n)), some (.val (.int (r % n))), some (.val (.int ((bs % n) * (bs % n) % n))), some (.val d)], h⟩, ?_, _, _, ex / 2, _, rfl, ?_, le2⟩
          · generalize ex / 2 = x2 at *
            simp [b_law_by_0, hx', e2, m1, m2, md, d2]
          · rw [Int.mul_emod, mod_pow, ← Int.mul_emod] at p
            rw [Int.mul_emod, Int.emod_emod, ← Int.mul_emod] at p
            exact p)
    ⟨[some (.val (.int b)), some (.val (.int e)), some (.val (.int n)), some (.val (.int (1 % n))), some (.val (.int (b % n))), none], h⟩ ⟨b, 1, e, none, rfl, by rw [Int.one_mul], by simp⟩
  rw [range_len] at hle
  have ex0 : ex = 0 := by
    rcases Nat.eq_zero_or_pos ex with w | w
    · exact w
    · have : 1 * 2 ^ 400 ≤ ex * 2 ^ 400 := Nat.mul_le_mul_right _ w
      rw [Nat.one_mul] at this
      have := Nat.lt_of_lt_of_le he (Nat.le_trans this hle)
      exact absurd this (Nat.lt_irrefl _)
  subst ex0
  rw [Int.pow_zero, Int.mul_one] at hg
  have sm : smallI 400 = true := by decide
  simp [c__law_by, startT, md, e1, sm, hg]
end PI

namespace NT
/-- the least divisor from 2 on -/
def IsLF (n d : Nat) : Prop := 2 ≤ d ∧ d ∣ n ∧ ∀ e, 2 ≤ e → e ∣ n → d ≤ e
theorem lf_exists {n : Nat} (h : 2 ≤ n) : ∃ d, IsLF n d := by
  have key : ∀ m, 2 ≤ m → m ∣ n → ∃ d, IsLF n d := by
    intro m
    induction m using Nat.strongRecOn with
    | ind m ih =>
      intro h1 h2
      by_cases z : ∃ e, 2 ≤ e ∧ e ∣ n ∧ e < m
      · obtain ⟨e, e1, e2, e3⟩ := z
        exact ih e e3 e1 e2
      · exact ⟨m, h1, h2, fun e e1 e2 => by
          rcases Nat.lt_or_ge e m with w | w
          · exact absurd ⟨e, e1, e2, w⟩ z
          · exact w⟩
  exact key n h (Nat.dvd_refl n)
open Classical in
noncomputable def lf (n : Nat) : Nat := if h : 2 ≤ n then (lf_exists h).choose else n
theorem lf_is {n : Nat} (h : 2 ≤ n) : IsLF n (lf n) := by
  unfold lf
  rw [dif_pos h]
  exact (lf_exists h).choose_spec
theorem lf_eq {n d : Nat} (h : 2 ≤ n) (k : IsLF n d) : d = lf n := Nat.le_antisymm (k.2.2 _ (lf_is h).1 (lf_is h).2.1) ((lf_is h).2.2 _ k.1 k.2.1)
theorem lf_prime {n : Nat} (h : 2 ≤ n) : Prime (lf n) := by
  obtain ⟨h1, h2, h3⟩ := lf_is h
  refine ⟨h1, fun d hd => ?_⟩
  have d0 : d ≠ 0 := fun z => by subst z; rw [Nat.zero_dvd] at hd; omega
  rcases (by omega : d = 1 ∨ 2 ≤ d) with z | z
  · exact .inl z
  · have := h3 d z (Nat.dvd_trans hd h2)
    have := Nat.le_of_dvd (by omega) hd
    exact .inr (by omega)
theorem prime_iff_lf {n : Nat} (h : 2 ≤ n) : Prime n ↔ lf n = n := by
  constructor
  · intro hp
    rcases hp.2 _ (lf_is h).2.1 with z | z
    · have := (lf_is h).1; omega
    · exact z
  · intro e
    rw [← e]; exact lf_prime h
/-- no divisor below d, d d more than n: the least divisor is n -/
theorem lf_none {n d : Nat} (h : 2 ≤ n) (hd : n < d * d) (hn : ∀ e, 2 ≤ e → e < d → ¬ e ∣ n) : n = lf n := by
  refine lf_eq h ⟨h, Nat.dvd_refl n, fun e e1 e2 => ?_⟩
  obtain ⟨k, hk⟩ := e2
  rcases Nat.lt_or_ge e n with w | w
  · exfalso
    have k2 : 2 ≤ k := by
      rcases (by omega : k = 0 ∨ k = 1 ∨ 2 ≤ k) with z | z | z
      · subst z; omega
      · subst z; omega
      · exact z
    have a1 : ¬ e < d := fun z => hn e e1 z ⟨k, hk⟩
    have a2 : ¬ k < d := fun z => hn k k2 z ⟨e, by rw [Nat.mul_comm]; exact hk⟩
    have : d * d ≤ e * k := Nat.mul_le_mul (by omega) (by omega)
    omega
  · exact w
end NT
namespace PI
open PySem L2 NT
theorem dvd_mod {d n : Nat} (hd : 1 ≤ d) : ((n : Int) % d = 0) ↔ d ∣ n := by
  constructor
  · intro h
    exact Int.natCast_dvd_natCast.mp (Int.dvd_of_emod_eq_zero h)
  · intro h
    exact Int.emod_eq_zero_of_dvd (Int.natCast_dvd_natCast.mpr h)
theorem q_least {fs : List Def} (hl : lookD fs "least_factor" = some c_least_factor) (k n : Nat) (hn : 2 ≤ n) (hn2 : n < 2 ^ 64) (h : List (List D)) :
    Phi fs (k + 1) "least_factor" [.int n] h = .ok (.val (.int (lf n : Nat))) h := by
  rw [Phi_run hl rfl]
  have e2 := mod2 n
  by_cases c : n % 2 = 0
  · have : 2 = lf n := lf_eq hn ⟨by omega, Nat.dvd_of_mod_eq_zero c, fun e h1 _ => h1⟩
    rw [c] at e2
    rw [← this]
    simp [c_least_factor, startT, e2]
  · have c1 : n % 2 = 1 := by omega
    rw [c1] at e2
    have loop := ex_loop (Φ := Phi fs k) (c := cleast_factor_0) (b := bleast_factor_0)
      (fun s => ∃ d : Nat, s = ⟨[some (.val (.int n)), some (.val (.int d))], h⟩ ∧ 3 ≤ d ∧ d ≤ n + 2 ∧ d % 2 = 1 ∧ ∀ e, 2 ≤ e → e < d → ¬ e ∣ n)
      (fun s => n + 3 - (intAt 1 s).toNat)
      (fun q => (∃ d, q = .next ⟨[some (.val (.int n)), d], h⟩ ∧ n = lf n) ∨ ∃ t, q = .ret (.val (.int (lf n : Nat))) ⟨t, h⟩) (fun s hI => by
        obtain ⟨d, rfl, h1, h2, h3, h4⟩ := hI
        have mm : binD .mul (.int (d : Int)) (.int (d : Int)) = some (.val (.int ((d : Int) * d))) := bin_mulI (mulOk_lt (Nat.lt_of_lt_of_le (by simp; omega : ((d : Int)).natAbs < 2 ^ 65) (Nat.pow_le_pow_right (by omega) (by omega))) (Nat.lt_of_lt_of_le (by simp; omega : ((d : Int)).natAbs < 2 ^ 65) (Nat.pow_le_pow_right (by omega) (by omega))))
        have md := mod_ne (n := d) (by omega) (n : Int)
        by_cases c2 : d * d ≤ n
        · have c2' : (d : Int) * d ≤ n := by exact_mod_cast c2
          by_cases c3 : d ∣ n
          · have z := (dvd_mod (by omega : 1 ≤ d)).mpr c3
            have : d = lf n := lf_eq hn ⟨by omega, c3, fun e e1 e3 => by
              rcases Nat.lt_or_ge e d with w | w
              · exact absurd e3 (h4 e e1 w)
              · exact w⟩
            refine .inr ⟨_, by simp [cleast_factor_0, mm, c2']; rfl, .inr (.inr ⟨_, _, by simp [bleast_factor_0, md, z]; exact ⟨rfl, rfl⟩, .inr ⟨_, by rw [this]⟩⟩)⟩
          · have z : ¬ ((n : Int) % d = 0) := fun w => c3 ((dvd_mod (by omega)).mp w)
            have dn : d ≤ n := Nat.le_trans (Nat.le_mul_self d) c2
            refine .inr ⟨_, by simp [cleast_factor_0, mm, c2']; rfl, .inl ⟨⟨[some (.val (.int n)), some (.val (.int ((d + 2 : Nat) : Int)))], h⟩, by simp [bleast_factor_0, md, z], ⟨d + 2, rfl, by omega, by omega, by omega, fun e e1 e3 => ?_⟩, ?_⟩⟩
            · rcases (by omega : e < d ∨ e = d ∨ e = d + 1) with w | w | w
              · exact h4 e e1 w
              · subst w; exact c3
              · intro q
                have : 2 ∣ n := Nat.dvd_trans ⟨e / 2, by omega⟩ q
                omega
            · simp only [intAt_mk, List.getElem?_cons_succ, List.getElem?_cons_zero]
              rw [Int.toNat_natCast, Int.toNat_natCast]; omega
        · have c2' : ¬ (d : Int) * d ≤ n := fun z => c2 (by exact_mod_cast z)
          exact .inl ⟨_, by simp [cleast_factor_0, mm, c2']; rfl, .inl ⟨_, rfl, lf_none hn (by omega) h4⟩⟩)
      ⟨[some (.val (.int n)), some (.val (.int 3))], h⟩ ⟨3, rfl, by omega, by omega, by omega, fun e e1 e3 z => by
        have : e = 2 := by omega
        subst this
        omega⟩
    rcases loop with ⟨d, e, e3⟩ | ⟨t, e⟩
    · rw [← e3]
      simp [c_least_factor, startT, e2, e]
    · simp [c_least_factor, startT, e2, e]
theorem q_isprime {fs : List Def} (hl : lookD fs "least_factor" = some c_least_factor) (hl2 : lookD fs "is_prime" = some c_is_prime) (k n : Nat) (hn2 : n < 2 ^ 64) (h : List (List D)) :
    ∃ b, (b = true ↔ Prime n) ∧ Phi fs (k + 2) "is_prime" [.int n] h = .ok (.val (.bl b)) h := by
  rw [Phi_run hl2 rfl]
  by_cases c : 2 ≤ n
  · have e := q_least hl k n c hn2 h
    have c1 : (1 : Int) < n := by omega
    refine ⟨decide (((lf n : Nat) : Int) = n), ?_, by simp [c_is_prime, startT, c1, e]⟩
    rw [prime_iff_lf c, decide_eq_true_eq]
    omega
  · have c1 : ¬ (1 : Int) < n := by omega
    exact ⟨false, ⟨fun z => (by cases z), fun z => absurd z.1 c⟩, by simp [c_is_prime, startT, c1]⟩
theorem q_law_least {fs : List Def} (hl : lookD fs "_law_least" = some c__law_least) (k n : Nat) (hn : 2 ≤ n) (h : List (List D)) :
    ∃ d : Nat, (n ≤ 10000000000 → d = lf n) ∧ (d = lf n ∨ d = n) ∧ Phi fs (k + 1) "_law_least" [.int n] h = .ok (.val (.int d)) h := by
  rw [Phi_run hl rfl]
  have loop := forR_loop (Φ := Phi fs k) (t := .name 1) (b := b_law_least_0) (rangeD 2 100000)
    (fun i s => ∃ x, s = ⟨[some (.val (.int n)), x], h⟩ ∧ ∀ e, 2 ≤ e → e < i + 2 → ¬ e ∣ n)
    (fun r => (∃ x, r = .next ⟨[some (.val (.int n)), x], h⟩ ∧ ((n ≤ 10000000000 → n = lf n))) ∨ ∃ t, r = .ret (.val (.int (lf n : Nat))) ⟨t, h⟩) (fun i d s e hI => by
      obtain ⟨x, rfl, h4⟩ := hI
      obtain ⟨rfl, hi⟩ := range_get _ _ _ _ e
      obtain ⟨d, hd⟩ : ∃ d : Nat, d = i + 2 := ⟨_, rfl⟩
      have hdi : (2 : Int) + i = d := by omega
      rw [hdi]
      have mm : binD .mul (.int (d : Int)) (.int (d : Int)) = some (.val (.int ((d : Int) * d))) := mul64 (by simp; omega)
      have md := mod_ne (n := d) (by omega) (n : Int)
      by_cases c2 : d * d ≤ n
      · have c2' : ¬ (n : Int) < d * d := fun z => by have : n < d * d := by exact_mod_cast z
                                                      omega
        by_cases c3 : d ∣ n
        · have z := (dvd_mod (by omega : 1 ≤ d)).mpr c3
          have : d = lf n := lf_eq hn ⟨by omega, c3, fun e e1 e3 => by
            rcases Nat.lt_or_ge e d with w | w
            · exact absurd e3 (h4 e e1 (by omega))
            · exact w⟩
          exact ⟨_, rfl, .inr (.inr (.inr ⟨_, _, by simp [b_law_least_0, mm, md, c2', z]; exact ⟨rfl, rfl⟩, .inr ⟨_, by rw [this]⟩⟩))⟩
        · have z : ¬ ((n : Int) % d = 0) := fun w => c3 ((dvd_mod (by omega)).mp w)
          exact ⟨_, rfl, .inl ⟨_, by simp [b_law_least_0, mm, md, c2', z]; rfl, _, rfl, fun e e1 e3 => by
            rcases (by omega : e < i + 2 ∨ e = d) with w | w
            · exact h4 e e1 w
            · subst w; exact c3⟩⟩
      · have c2' : (n : Int) < d * d := by have : n < d * d := by omega
                                           exact_mod_cast this
        exact ⟨_, rfl, .inr (.inr (.inl ⟨_, by simp [b_law_least_0, mm, c2']; rfl, .inl ⟨_, rfl, fun _ => lf_none (d := d) hn (by omega) fun e e1 e3 => h4 e e1 (by omega)⟩⟩))⟩)
    (fun s hI => by
      obtain ⟨x, rfl, h4⟩ := hI
      rw [range_len] at h4
      exact .inl ⟨x, rfl, fun hb => lf_none (d := 100002) hn (by omega) fun e e1 e3 => h4 e e1 (by omega)⟩)
    ⟨[some (.val (.int n)), none], h⟩ ⟨none, rfl, fun e e1 e2 => by omega⟩
  have s1 : smallI 2 = true := by decide
  have s2 : smallI 100002 = true := by decide
  rcases loop with ⟨x, e, hb⟩ | ⟨t, e⟩
  · exact ⟨n, hb, .inr rfl, by simp [c__law_least, startT, s1, s2, e]⟩
  · exact ⟨lf n, fun _ => rfl, .inl rfl, by simp [c__law_least, startT, s1, s2, e]⟩
theorem q_law_isprime {fs : List Def} (hl : lookD fs "_law_least" = some c__law_least) (hl2 : lookD fs "_law_is_prime" = some c__law_is_prime) (k n : Nat) (h : List (List D)) :
    ∃ b, (n ≤ 10000000000 → (b = true ↔ Prime n)) ∧ (Prime n → b = true) ∧ Phi fs (k + 2) "_law_is_prime" [.int n] h = .ok (.val (.bl b)) h := by
  rw [Phi_run hl2 rfl]
  by_cases c : 2 ≤ n
  · obtain ⟨d, h1, h2, e⟩ := q_law_least hl k n c h
    have c1 : (1 : Int) < n := by omega
    refine ⟨decide ((d : Int) = n), fun hb => ?_, fun hp => ?_, by simp [c__law_is_prime, startT, c1, e]⟩
    · rw [prime_iff_lf c, decide_eq_true_eq, ← h1 hb]
      omega
    · have := (prime_iff_lf c).mp hp
      rw [decide_eq_true_eq]
      omega
  · have c1 : ¬ (1 : Int) < n := by omega
    exact ⟨false, fun _ => ⟨fun z => (by cases z), fun z => absurd z.1 c⟩, fun z => absurd z.1 c, by simp [c__law_is_prime, startT, c1]⟩
end PI

namespace NT
def prodP : List (Nat × Nat) → Nat
  | [] => 1
  | (q, e) :: l => q ^ e * prodP l
theorem prodP_app : ∀ l m, prodP (l ++ m) = prodP l * prodP m
  | [], m => by simp [prodP]
  | (q, e) :: l, m => by rw [List.cons_append, prodP, prodP, prodP_app l m, Nat.mul_assoc]
/-- primes ascending, exponents from 1 on, the product -/
def PartsOK (n : Nat) (L : List (Nat × Nat)) : Prop := prodP L = n ∧ (∀ x ∈ L, Prime x.1 ∧ 1 ≤ x.2) ∧ L.Pairwise (fun x y => x.1 < y.1)
theorem prodP_dvd {r : Nat} (hr : Prime r) : ∀ {L : List (Nat × Nat)}, (∀ x ∈ L, Prime x.1) → r ∣ prodP L → ∃ x ∈ L, x.1 = r
  | [], _, h => by
    have := Nat.le_of_dvd (by simp [prodP]) h
    have := hr.1
    simp [prodP] at *; omega
  | (q, e) :: l, hp, h => by
    rw [prodP] at h
    rcases hr.dvd_mul h with w | w
    · exact ⟨(q, e), List.mem_cons_self, (hr.eq (hp _ List.mem_cons_self) (hr.dvd_pow w)).symm⟩
    · obtain ⟨x, hx, e⟩ := prodP_dvd hr (fun x hx => hp x (List.mem_cons_of_mem _ hx)) w
      exact ⟨x, List.mem_cons_of_mem _ hx, e⟩
theorem dvd_prodP : ∀ {L : List (Nat × Nat)}, ∀ x ∈ L, 1 ≤ x.2 → x.1 ∣ prodP L
  | (q, e) :: l, x, hx, h1 => by
    rw [prodP]
    rcases List.mem_cons.mp hx with z | z
    · subst z
      obtain ⟨f, rfl⟩ : ∃ f, e = f + 1 := ⟨e - 1, by simp at h1; omega⟩
      exact Nat.dvd_trans ⟨q ^ f, by rw [Nat.pow_succ, Nat.mul_comm]⟩ (Nat.dvd_mul_right _ _)
    · exact Nat.dvd_trans (dvd_prodP x z h1) (Nat.dvd_mul_left _ _)
end NT
namespace PI
open PySem L2 NT
def partD (x : Nat × Nat) : D := .tup [.int x.1, .int x.2]
theorem div_q {n q : Nat} (hq : 1 ≤ q) (hq2 : q < 2 ^ 64) : binD .fdiv (.int (n : Int)) (.int (q : Int)) = some (.val (.int ((n / q : Nat) : Int))) := by
  have dv : divOk (q : Int) = true := by
    simp only [divOk, Bool.and_eq_true, decide_eq_true_eq]
    have : q.log2 < 64 := (Nat.log2_lt (by omega)).mpr hq2
    exact ⟨by omega, by simp only [Int.natAbs_natCast]; omega⟩
  rw [bin_fdivI dv, Int.fdiv_eq_ediv_of_nonneg _ (by omega)]; simp
theorem parts_inner (Φ : Fns) (m q : Nat) (hm : 1 ≤ m) (hq : 2 ≤ q) (hq2 : q < 2 ^ 64) (l : Option Sl) (h : List (List D)) :
    ∃ m' e : Nat, m = m' * q ^ e ∧ ¬ q ∣ m' ∧ ex Φ (.while cparts_of_1 bparts_of_1) ⟨[some (.val (.int m)), l, some (.val (.int q)), some (.val (.int 0))], h⟩ = .next ⟨[some (.val (.int m')), l, some (.val (.int q)), some (.val (.int e))], h⟩ := by
  have loop := ex_loop (Φ := Φ) (c := cparts_of_1) (b := bparts_of_1)
    (fun s => ∃ m' e : Nat, s = ⟨[some (.val (.int m')), l, some (.val (.int q)), some (.val (.int e))], h⟩ ∧ m = m' * q ^ e ∧ 1 ≤ m')
    (fun s => (intAt 0 s).toNat)
    (fun r => ∃ m' e : Nat, m = m' * q ^ e ∧ ¬ q ∣ m' ∧ r = .next ⟨[some (.val (.int m')), l, some (.val (.int q)), some (.val (.int e))], h⟩) (fun s hI => by
      obtain ⟨m', e, rfl, h1, h2⟩ := hI
      have md := mod_ne (n := q) (by omega) (m' : Int)
      have dv := div_q (n := m') (by omega : 1 ≤ q) hq2
      by_cases c : q ∣ m'
      · have z := (dvd_mod (by omega : 1 ≤ q)).mpr c
        obtain ⟨t, ht⟩ := c
        rw [ht, Nat.mul_div_cancel_left _ (by omega : 0 < q), ← ht] at dv
        have t1 : 1 ≤ t := Nat.pos_of_ne_zero fun w => by subst w; simp at ht; omega
        have lt : t < m' := by
          have : 2 * t ≤ q * t := Nat.mul_le_mul_right t hq
          omega
        refine .inr ⟨⟨[some (.val (.int m')), l, some (.val (.int q)), some (.val (.int e))], h⟩, by simp [cparts_of_1, md, z], .inl ⟨⟨[some (.val (.int (t : Nat))), l, some (.val (.int q)), some (.val (.int ((e + 1 : Nat) : Int)))], h⟩, ?_, ⟨t, e + 1, rfl, ?_, t1⟩, ?_⟩⟩
        · simp [bparts_of_1, dv]
        · rw [h1, ht, Nat.pow_succ]; simp only [Nat.mul_assoc, Nat.mul_comm, Nat.mul_left_comm]
        · simp only [intAt_mk, List.getElem?_cons_zero]
          exact nat_lt lt
      · have z : ¬ ((m' : Int) % q = 0) := fun w => c ((dvd_mod (by omega)).mp w)
        exact .inl ⟨⟨[some (.val (.int m')), l, some (.val (.int q)), some (.val (.int e))], h⟩, by simp [cparts_of_1, md, z], m', e, h1, c, rfl⟩)
    _ ⟨m, 0, rfl, by simp, hm⟩
  obtain ⟨m', e, h1, h2, h3⟩ := loop
  exact ⟨m', e, h1, h2, h3⟩
theorem q_parts {fs : List Def} (hl : lookD fs "least_factor" = some c_least_factor) (hl2 : lookD fs "parts_of" = some c_parts_of) (k n : Nat) (hn : 1 ≤ n) (hn2 : n < 2 ^ 64) (h : List (List D)) :
    ∃ L, PartsOK n L ∧ Phi fs (k + 2) "parts_of" [.int n] h = .ok (.own (L.map partD)) h := by
  rw [Phi_run hl2 rfl]
  have loop := ex_loop (Φ := Phi fs (k + 1)) (c := cparts_of_0) (b := bparts_of_0)
    (fun s => ∃ (m : Nat) (L : List (Nat × Nat)) (x y : Option Sl), s = ⟨[some (.val (.int m)), some (.own (L.map partD)), x, y], h⟩ ∧ 1 ≤ m ∧ prodP L * m = n ∧ (∀ x ∈ L, Prime x.1 ∧ 1 ≤ x.2) ∧ L.Pairwise (fun x y => x.1 < y.1) ∧ (∀ r, Prime r → r ∣ m → ∀ x ∈ L, x.1 < r) ∧ 2 ^ L.length * m ≤ n)
    (fun s => (intAt 0 s).toNat)
    (fun r => ∃ L t x y, PartsOK n L ∧ r = .next ⟨[t, some (.own (L.map partD)), x, y], h⟩) (fun s hI => by
      obtain ⟨m, L, x, y, rfl, h1, h2, h3, h4, h5, h6⟩ := hI
      by_cases c : m = 1
      · subst c
        refine .inl ⟨⟨[some (.val (.int ((1 : Nat) : Int))), some (.own (L.map partD)), x, y], h⟩, by simp [cparts_of_0], L, _, _, _, ⟨by rw [← h2, Nat.mul_one], h3, h4⟩, rfl⟩
      · have c1 : (1 : Int) < m := by omega
        have m2 : m < 2 ^ 64 := by
          have : 1 * m ≤ 2 ^ L.length * m := Nat.mul_le_mul_right _ Nat.one_le_two_pow
          omega
        have e1 := q_least hl k m (by omega) m2 h
        obtain ⟨q, hq⟩ : ∃ q, lf m = q := ⟨_, rfl⟩
        have qp := lf_prime (n := m) (by omega)
        have qd := (lf_is (n := m) (by omega)).2.1
        have ql := (lf_is (n := m) (by omega)).2.2
        rw [hq] at e1 qp qd ql
        have q64 : q < 2 ^ 64 := Nat.lt_of_le_of_lt (Nat.le_of_dvd (by omega) qd) m2
        obtain ⟨m', e, i1, i2, i3⟩ := parts_inner (Phi fs (k + 1)) m q h1 qp.1 q64 (some (.own (L.map partD))) h
        have e0 : 1 ≤ e := Nat.pos_of_ne_zero fun z => by
          subst z
          rw [Nat.pow_zero, Nat.mul_one] at i1
          exact i2 (i1 ▸ qd)
        have m'1 : 1 ≤ m' := Nat.pos_of_ne_zero fun z => by subst z; simp at i1; omega
        have two : 2 * m' ≤ m := by
          rw [i1, Nat.mul_comm 2 m']
          exact Nat.mul_le_mul_left _ (Nat.le_trans qp.1 (Nat.le_self_pow (by omega) q))
        have l24 : L.length < line := by
          have : 2 ^ L.length ≤ n := Nat.le_trans (Nat.le_mul_of_pos_right _ h1) h6
          have : L.length < 64 := by
            apply Classical.byContradiction
            intro z
            have := Nat.pow_le_pow_right (n := 2) (by omega) (by omega : 64 ≤ L.length)
            omega
          unfold line; omega
        refine .inr ⟨⟨[some (.val (.int m)), some (.own (L.map partD)), x, y], h⟩, by simp [cparts_of_0, c1], .inl ⟨⟨[some (.val (.int m')), some (.own ((L ++ [(q, e)]).map partD)), some (.val (.int q)), some (.val (.int e))], h⟩, ?_, ⟨m', L ++ [(q, e)], _, _, rfl, m'1, ?_, ?_, ?_, ?_, ?_⟩, ?_⟩⟩
        · simp [bparts_of_0, e1, i3, ownAt, l24, partD]
        · rw [prodP_app, ← h2, i1]
          simp only [prodP]
          simp only [Nat.mul_one, Nat.mul_assoc, Nat.mul_comm, Nat.mul_left_comm]
        · intro x hx
          rcases List.mem_append.mp hx with z | z
          · exact h3 x z
          · rw [List.mem_singleton] at z; subst z; exact ⟨qp, e0⟩
        · rw [List.pairwise_append]
          refine ⟨h4, by simp, fun x hx y hy => ?_⟩
          rw [List.mem_singleton] at hy; subst hy
          exact h5 q qp qd x hx
        · intro r hr hd x hx
          have hdm : r ∣ m := i1 ▸ Nat.dvd_trans hd (Nat.dvd_mul_right _ _)
          rcases List.mem_append.mp hx with z | z
          · exact h5 r hr hdm x z
          · rw [List.mem_singleton] at z; subst z
            have := ql r hr.1 hdm
            have ne : r ≠ q := fun w => i2 (w ▸ hd)
            show q < r
            omega
        · rw [List.length_append, List.length_singleton, Nat.pow_succ, Nat.mul_assoc]
          exact Nat.le_trans (Nat.mul_le_mul_left _ two) h6
        · simp only [intAt_mk, List.getElem?_cons_zero]
          exact nat_lt (by omega))
    ⟨[some (.val (.int n)), some (.own []), none, none], h⟩ ⟨n, [], none, none, rfl, hn, by simp [prodP], by simp, by simp, by simp, by simp⟩
  obtain ⟨L, t, x, y, ok, e⟩ := loop
  exact ⟨L, ok, by simp [c_parts_of, startT, e]⟩
end PI

namespace PI
open PySem L2 NT
/-! ### papers -/
mutual
inductive Pp where
  | mk (n g : Int) (rows : Rws)
inductive Rws where
  | nil | cons (q e : Int) (p : Pp) (r : Rws)
end
def Pp.num : Pp → Int
  | .mk n _ _ => n
mutual
def Pp.d : Pp → D
  | .mk n g rows => .tup [.str "prime", .int n, .int g, .tup rows.ds]
def Rws.ds : Rws → List D
  | .nil => []
  | .cons q e p r => .tup [.int q, .int e, p.d] :: r.ds
end
def Rws.qs : Rws → List Int
  | .nil => []
  | .cons q _ _ r => q :: r.qs
def Rws.len : Rws → Nat
  | .nil => 0
  | .cons _ _ _ r => r.len + 1
mutual
def Pp.dep : Pp → Nat
  | .mk _ _ rows => rows.dep
def Rws.dep : Rws → Nat
  | .nil => 0
  | .cons _ _ p r => max (p.dep + 1) r.dep
end
mutual
def Pp.bd : Pp → Prop
  | .mk n _ rows => n.natAbs < 2 ^ 63 ∧ rows.len ≤ 64 ∧ rows.bd
def Rws.bd : Rws → Prop
  | .nil => True
  | .cons q _ p r => q.natAbs < 2 ^ 63 ∧ p.bd ∧ r.bd
end
def bitsI (n : Int) : Int := if n = 0 then 0 else n.natAbs.log2 + 1
mutual
def Pp.ok : Pp → Bool
  | .mk n g rows => decide (2 ≤ n) && rows.ok (n - 1) 1 1 && decide (g ^ (n - 1).toNat % n = 1) && rows.qs.all fun q => !decide (g ^ ((n - 1) / q).toNat % n = 1)
def Rws.ok : Rws → Int → Int → Int → Bool
  | .nil, n, w, _ => decide (w = n)
  | .cons q e p r, n, w, l => decide (l < q) && decide (1 ≤ e) && decide (p.num = q) && p.ok && decide (e ≤ bitsI n) && r.ok n (w * q ^ e.toNat) q
end
theorem Rws.ds_len : ∀ r : Rws, r.ds.length = r.len
  | .nil => rfl
  | .cons _ _ _ r => by simp [Rws.ds, Rws.len, Rws.ds_len r]
theorem Rws.ok_qs : ∀ (r : Rws) (n w l : Int), 1 ≤ l → r.ok n w l = true → ∀ q ∈ r.qs, 2 ≤ q
  | .nil, n, w, l, h1, h, q, hq => by simp [Rws.qs] at hq
  | .cons q e p r, n, w, l, h1, h, x, hx => by
    unfold Rws.ok at h
    simp only [Bool.and_eq_true, decide_eq_true_eq] at h
    obtain ⟨⟨⟨⟨⟨a1, a2⟩, a3⟩, a4⟩, a5⟩, a6⟩ := h
    unfold Rws.qs at hx
    rcases List.mem_cons.mp hx with z | z
    · subst z; omega
    · exact Rws.ok_qs r _ _ q (by omega) a6 x z
theorem pow_pos' {q : Int} (h : 1 ≤ q) : ∀ k : Nat, 1 ≤ q ^ k
  | 0 => by rw [Int.pow_zero]; omega
  | k + 1 => by
    rw [Int.pow_succ]
    have := pow_pos' h k
    have := Int.mul_le_mul this h (by omega) (by omega)
    omega
theorem Rws.ok_big : ∀ (r : Rws) (n w l : Int), 1 ≤ l → 1 ≤ w → n < w → r.ok n w l = false
  | .nil, n, w, l, h1, h2, h => by unfold Rws.ok; exact decide_eq_false (by omega)
  | .cons q e p r, n, w, l, h1, h2, h => by
    unfold Rws.ok
    by_cases c : l < q
    · have h3 := pow_pos' (by omega : 1 ≤ q) e.toNat
      have h4 : w * 1 ≤ w * q ^ e.toNat := Int.mul_le_mul_of_nonneg_left h3 (by omega)
      rw [Rws.ok_big r n _ q (by omega) (by omega) (by omega), Bool.and_false]
    · rw [decide_eq_false c]; simp
theorem bits_lt {n : Int} (h0 : 0 ≤ n) : n < 2 ^ (bitsI n).toNat := by
  unfold bitsI
  split
  · subst_vars; decide
  · have h1 := Nat.lt_log2_self (n := n.natAbs)
    have h2 : ((n.natAbs.log2 : Int) + 1).toNat = n.natAbs.log2 + 1 := by omega
    rw [h2]
    have h3 : ((n.natAbs : Nat) : Int) < ((2 ^ (n.natAbs.log2 + 1) : Nat) : Int) := Int.ofNat_lt.mpr h1
    push_cast at h3
    omega
theorem bits_le {n : Int} (h0 : 0 ≤ n) (h : n.natAbs < 2 ^ 64) : bitsI n ≤ 64 := by
  unfold bitsI
  split
  · omega
  · have := (Nat.log2_lt (by omega : n.natAbs ≠ 0)).mpr h
    omega
@[simp] theorem forR_nil (Φ : Fns) (t : MT) (b : MSs) (s : S) : forR Φ t b [] s = .next s := by rfl
theorem forR_cons (Φ : Fns) (t : MT) (b : MSs) (d : D) (ds : List D) (s s1 : S) (h : bindT t d s = some s1) : forR Φ t b (d :: ds) s = match exs Φ b s1 with
      | .next s2 => forR Φ t b ds s2
      | .cnt s2 => forR Φ t b ds s2
      | .brk s2 => .next s2
      | r => r := by
  unfold forR
  rw [forGo]
  rw [h] <;> rfl
theorem Rws.mem_ds : ∀ (r : Rws), ∀ d ∈ r.ds, ∃ q e p, d = .tup [.int q, .int e, Pp.d p] ∧ q ∈ r.qs
  | .nil, d, h => by simp [Rws.ds] at h
  | .cons q e p r, d, h => by
    unfold Rws.ds at h
    unfold Rws.qs
    rcases List.mem_cons.mp h with z | z
    · exact ⟨q, e, p, z, List.mem_cons_self⟩
    · obtain ⟨q', e', p', h1, h2⟩ := Rws.mem_ds r d z
      exact ⟨q', e', p', h1, List.mem_cons_of_mem _ h2⟩
theorem Rws.bd_qs : ∀ (r : Rws), r.bd → ∀ q ∈ r.qs, q.natAbs < 2 ^ 63
  | .nil, _, q, h => by simp [Rws.qs] at h
  | .cons q e p r, hb, x, h => by
    unfold Rws.bd at hb
    unfold Rws.qs at h
    rcases List.mem_cons.mp h with z | z
    · subst z; exact hb.1
    · exact Rws.bd_qs r hb.2.2 x z
def rowF (F : Int → Bool) : D → Option D
  | .tup [.int q, _, _] => some (.bl (F q))
  | _ => none
theorem Rws.fm (F : Int → Bool) : ∀ r : Rws, r.ds.filterMap (rowF F) = r.qs.map fun q => D.bl (F q)
  | .nil => rfl
  | .cons q e p r => by
    unfold Rws.ds Rws.qs
    rw [List.filterMap_cons_some (f := rowF F) (b := .bl (F q)) rfl, Rws.fm F r, List.map_cons]
theorem bls_map (F : Int → Bool) : ∀ l : List Int, blsOf (l.map fun q => D.bl (F q)) = some (l.map F)
  | [] => rfl
  | a :: l => by rw [List.map_cons, blsOf, bls_map F l]; rfl
theorem all_map (F : Int → Bool) (l : List Int) : (l.map F).all id = l.all F := by rw [List.all_map]; rfl
structure PapLk (fs : List Def) : Prop where
  raised : lookD fs "raised" = some c_raised
  power : lookD fs "power_by" = some c_power_by
  rows : lookD fs "rows_right" = some c_rows_right
  prime : lookD fs "_right_prime" = some c__right_prime
section
variable {fs : List Def} (K : PapLk fs)
include K
mutual
theorem q_right_prime : ∀ (p : Pp), p.bd → ∀ (k : Nat), 2 * p.dep + 3 ≤ k → ∀ h, Phi fs k "_right_prime" [p.d] h = .ok (.val (.bl p.ok)) h
  | .mk n g rows, hb, k, hk, h => by
    obtain ⟨hb1, hb2, hb3⟩ := hb
    obtain ⟨k, rfl⟩ : ∃ k', k = k' + 3 := ⟨k - 3, by omega⟩
    have hk' : 2 * rows.dep + 1 ≤ k + 1 := by unfold Pp.dep at hk; omega
    rw [Phi_run K.prime rfl]
    unfold Pp.d Pp.ok
    by_cases c1 : n < 2
    · have c1' : ¬ 2 ≤ n := by omega
      simp [c__right_prime, startT, setAll, c1, c1']
    · obtain ⟨N, rfl⟩ : ∃ N : Nat, n = N := ⟨n.toNat, by omega⟩
      have c1' : (2 : Int) ≤ N := by omega
      have N64 : N < 2 ^ 64 := by omega
      have er : Phi fs (k + 2) "rows_right" [.int ((N : Int) - 1), .tup rows.ds] h = .ok (.val (.bl (rows.ok ((N : Int) - 1) 1 1))) h := by
        rw [Phi_run K.rows rfl]
        have := q_rows_loop rows hb3 (k + 1) hk' ((N : Int) - 1) (by omega) (by omega) (.tup rows.ds) 1 1 (by omega) (by omega) 0 (by omega) (by simp) (by omega) none none none h
        rcases this with ⟨w', l', x, y, z, e, hw⟩ | ⟨s', t, e, rfl, hw⟩
        · simp [c_rows_right, startT, e, hw]
        · simp [c_rows_right, startT, e, hw]
      cases c2 : rows.ok ((N : Int) - 1) 1 1 with
      | false =>
        rw [c2] at er
        simp [c__right_prime, startT, setAll, c1, er]
      | true =>
        rw [c2] at er
        have hN1 : ((N : Int) - 1) = ((N - 1 : Nat) : Int) := by omega
        have e1 := q_power K.power (k + 1) g (N - 1) N (by omega) N64 h
        have hq2 := Rws.ok_qs rows _ _ _ (by omega) c2
        rw [hN1] at er ⊢
        rw [Int.toNat_natCast]
        by_cases c3 : g ^ (N - 1) % N = 1
        · obtain ⟨s', ⟨x, y, rfl⟩, lc⟩ := lcR_I (Φ := Phi fs (k + 2)) (tg := .tup [5, 1, 1]) (cond := .none) (elt := .cmp (.call "power_by" (.cons (.var 3) (.cons (.bin .fdiv (.bin .sub (.var 2) (.cst (.int 1))) (.var 5)) (.cons (.var 2) .nil)))) (.cons .ne (.cst (.int 1)) .nil))
            (fun s => ∃ x y, s = ⟨[some (.val (.tup [.str "prime", .int (N : Int), .int g, .tup rows.ds])), x, some (.val (.int (N : Int))), some (.val (.int g)), some (.val (.tup rows.ds)), y], h⟩)
            (rowF fun q => !decide (g ^ (((N - 1 : Nat) : Int) / q).toNat % N = 1)) rows.ds ⟨[some (.val (.tup [.str "prime", .int (N : Int), .int g, .tup rows.ds])), some (.val (.str "prime")), some (.val (.int (N : Int))), some (.val (.int g)), some (.val (.tup rows.ds)), none], h⟩
            (by rw [Rws.ds_len]; unfold line; omega) ⟨_, _, rfl⟩ (fun d hd s hI => by
              obtain ⟨x, y, rfl⟩ := hI
              obtain ⟨q, e, p, rfl, hq⟩ := Rws.mem_ds rows d hd
              obtain ⟨Q, rfl⟩ : ∃ Q : Nat, q = Q := ⟨q.toNat, by have := hq2 q hq; omega⟩
              have hQ := hq2 _ hq
              have hQ64 : Q < 2 ^ 64 := by
                have := Rws.bd_qs rows hb3 _ hq
                omega
              have dv := div_q (n := N - 1) (q := Q) (by omega) hQ64
              have e2 := q_power K.power (k + 1) g ((N - 1) / Q) N (by omega) N64 h
              refine ⟨⟨[some (.val (.tup [.str "prime", .int (N : Int), .int g, .tup rows.ds])), some (.val p.d), some (.val (.int (N : Int))), some (.val (.int g)), some (.val (.tup rows.ds)), some (.val (.int (Q : Int)))], h⟩, ?_, _, _, rfl⟩
              have e3 : (((N - 1 : Nat) : Int) / (Q : Int)).toNat = (N - 1) / Q := by rw [← Int.natCast_ediv, Int.toNat_natCast]
              simp only [rowF]
              rw [e3]
              generalize (N - 1) / Q = t at *
              simp [turnL, wipeT, MT.ids, bindT, setAll, hN1, dv, e2])
          rw [Rws.fm] at lc
          have bl := blt_all (bls_map (fun q => !decide (g ^ (((N - 1 : Nat) : Int) / q).toNat % N = 1)) rows.qs)
          rw [all_map] at bl
          simp [c__right_prime, startT, setAll, c1, hN1, er, e1, c3, c1', lc, bl, backT, MT.ids]
        · simp [c__right_prime, startT, setAll, c1, hN1, er, e1, c3]
theorem q_rows_loop : ∀ (r : Rws), r.bd → ∀ (k : Nat), 2 * r.dep + 1 ≤ k → ∀ (n : Int), 1 ≤ n → n.natAbs < 2 ^ 64 → ∀ (dr : D) (w l : Int), 1 ≤ w → 1 ≤ l → ∀ i : Nat, i + r.len ≤ 64 → w.natAbs ≤ 2 ^ (4100 * i) → l.natAbs < 2 ^ 64 → ∀ (x y z : Option Sl) (h : List (List D)),
    (∃ w' l' x' y' z', forR (Phi fs k) (.tup [4, 5, 6]) brows_right_0 r.ds ⟨[some (.val (.int n)), some (.val dr), some (.val (.int w)), some (.val (.int l)), x, y, z], h⟩ = .next ⟨[some (.val (.int n)), some (.val dr), some (.val (.int w')), some (.val (.int l')), x', y', z'], h⟩ ∧ r.ok n w l = decide (w' = n)) ∨
    (∃ (s' : List (List D)) (t : List (Option Sl)), forR (Phi fs k) (.tup [4, 5, 6]) brows_right_0 r.ds ⟨[some (.val (.int n)), some (.val dr), some (.val (.int w)), some (.val (.int l)), x, y, z], h⟩ = .ret (.val (.bl false)) ⟨t, s'⟩ ∧ s' = h ∧ r.ok n w l = false)
  | .nil, hb, k, hk, n, hn, hn2, dr, w, l, hw, hl, i, hi, hwi, hl2, x, y, z, h => .inl ⟨w, l, x, y, z, rfl, rfl⟩
  | .cons q e p r, hb, k, hk, n, hn, hn2, dr, w, l, hw, hl, i, hi, hwi, hl2, x, y, z, h => by
    obtain ⟨hb1, hb2, hb3⟩ := hb
    unfold Rws.dep at hk
    unfold Rws.len at hi
    unfold Rws.ds Rws.ok
    rw [forR_cons _ _ _ _ _ _ ⟨[some (.val (.int n)), some (.val dr), some (.val (.int w)), some (.val (.int l)), some (.val (.int q)), some (.val (.int e)), some (.val p.d)], h⟩ (by rfl)]
    obtain ⟨k, rfl⟩ : ∃ k', k = k' + 1 := ⟨k - 1, by omega⟩
    have ep := q_right_prime p hb2 (k + 1) (by omega) h
    have hpd : ∃ n2 g2 r2, p = .mk n2 g2 r2 := by cases p; exact ⟨_, _, _, rfl⟩
    obtain ⟨n2, g2, r2, rfl⟩ := hpd
    by_cases c1 : l < q
    rotate_left
    · have c1' : q ≤ l := by omega
      exact .inr ⟨h, _, by simp [brows_right_0, c1']; rfl, rfl, by rw [decide_eq_false c1]; simp⟩
    have c1' : ¬ q ≤ l := by omega
    by_cases c2 : 1 ≤ e
    rotate_left
    · have c2' : e < 1 := by omega
      exact .inr ⟨h, _, by simp [brows_right_0, c1', c2']; rfl, rfl, by rw [decide_eq_false c2]; simp⟩
    have c2' : ¬ e < 1 := by omega
    by_cases c3 : n2 = q
    rotate_left
    · exact .inr ⟨h, _, by unfold Pp.d; simp [brows_right_0, c1', c2', c3]; rfl, rfl, by unfold Pp.num; rw [decide_eq_false c3]; simp⟩
    subst c3
    cases c4 : (Pp.mk n2 g2 r2).ok with
    | false =>
      rw [c4] at ep
      unfold Pp.d at ep
      exact .inr ⟨h, _, by unfold Pp.d; simp [brows_right_0, c1', c2', ep]; rfl, rfl, by simp⟩
    | true =>
    rw [c4] at ep
    unfold Pp.d at ep
    by_cases c5 : e ≤ bitsI n
    rotate_left
    · have c5' : bitsI n < e := by omega
      unfold bitsI at c5'
      exact .inr ⟨h, _, by unfold Pp.d; simp [brows_right_0, c1', c2', ep, c5']; rfl, rfl, by rw [decide_eq_false c5]; simp⟩
    have c5' : ¬ bitsI n < e := by omega
    have e64 : e ≤ 64 := Int.le_trans c5 (bits_le (by omega) hn2)
    obtain ⟨E, rfl⟩ : ∃ E : Nat, e = E := ⟨e.toNat, by omega⟩
    obtain ⟨Q, rfl⟩ : ∃ Q : Nat, n2 = Q := ⟨n2.toNat, by omega⟩
    obtain ⟨W, rfl⟩ : ∃ W : Nat, w = W := ⟨w.toNat, by omega⟩
    have qe : Q ^ E ≤ 2 ^ 4100 := Nat.le_trans (Nat.le_trans (Nat.pow_le_pow_left (by omega : Q ≤ 2 ^ 64) E) (by rw [← Nat.pow_mul]; exact Nat.pow_le_pow_right (by omega) (by omega : 64 * E ≤ 64 * 64))) (Nat.pow_le_pow_right (by omega) (by omega))
    have er := q_raised K.raised k Q E (Nat.lt_of_le_of_lt qe (Nat.pow_lt_pow_right (by omega) (by omega))) h
    have w1 : W ≤ 2 ^ (4100 * i) := by simpa using hwi
    have m1 : binD .mul (.int (W : Int)) (.int ((Q ^ E : Nat) : Int)) = some (.val (.int ((W : Int) * ((Q ^ E : Nat) : Int)))) := bin_mulI (mulOk_lt
      (by simp only [Int.natAbs_natCast]; exact Nat.lt_of_le_of_lt w1 (Nat.pow_lt_pow_right (by omega) (by omega)))
      (by simp only [Int.natAbs_natCast]; exact Nat.lt_of_le_of_lt qe (Nat.pow_lt_pow_right (by omega) (by omega))))
    have run : exs (Phi fs (k + 1)) brows_right_0 ⟨[some (.val (.int n)), some (.val dr), some (.val (.int W)), some (.val (.int l)), some (.val (.int Q)), some (.val (.int E)), some (.val (Pp.mk (Q : Int) g2 r2).d)], h⟩ = .next ⟨[some (.val (.int n)), some (.val dr), some (.val (.int ((W : Int) * ((Q ^ E : Nat) : Int)))), some (.val (.int Q)), some (.val (.int Q)), some (.val (.int E)), some (.val (Pp.mk (Q : Int) g2 r2).d)], h⟩ := by
      unfold bitsI at c5'
      unfold Pp.d
      clear qe w1 hwi
      generalize Q ^ E = t at *
      simp [brows_right_0, c1', c2', ep, c5', er, m1]
    rw [run]
    dsimp only
    have hpe : ((Q ^ E : Nat) : Int) = (Q : Int) ^ ((E : Int)).toNat := by rw [Int.toNat_natCast]; push_cast; rfl
    have hp1 : 1 ≤ Q ^ E := Nat.one_le_pow _ _ (by omega)
    have := q_rows_loop r hb3 (k + 1) (by omega) n hn hn2 dr ((W : Int) * ((Q ^ E : Nat) : Int)) Q (by
        have : 1 ≤ W * Q ^ E := Nat.mul_le_mul (by omega : 1 ≤ W) hp1
        exact_mod_cast this) (by omega) (i + 1) (by omega) (by
        have e : ((W : Int) * ((Q ^ E : Nat) : Int)) = ((W * Q ^ E : Nat) : Int) := by push_cast; rfl
        rw [e, Int.natAbs_natCast, Nat.mul_succ, Nat.pow_add]
        exact Nat.mul_le_mul w1 qe) (by omega) (some (.val (.int Q))) (some (.val (.int E))) (some (.val (Pp.mk (Q : Int) g2 r2).d)) h
    rw [decide_eq_true c1, decide_eq_true c2, decide_eq_true c5, ← hpe]
    unfold Pp.num
    simp only [decide_true, Bool.and_self, Bool.true_and]
    exact this
end
end
end PI

namespace PI
open PySem L2 NT
structure LPapLk (fs : List Def) : Prop where
  by' : lookD fs "_law_by" = some c__law_by
  rows : lookD fs "_law_rows_right" = some c__law_rows_right
  prime : lookD fs "_law_paper_right" = some c__law_paper_right
theorem law_rows_inner (Φ : Fns) (n W Q E : Nat) (hW : 1 ≤ W) (hn : W ≤ n) (hn2 : n < 2 ^ 64) (hQ : 2 ≤ Q) (dr : D) (l q e p z : Option Sl) (hq : q = some (.val (.int (Q : Nat)))) (h : List (List D)) :
    (W * Q ^ E ≤ n ∧ ∃ z', forR Φ (.name 7) b_law_rows_right_1 (rangeD 0 E) ⟨[some (.val (.int n)), some (.val dr), some (.val (.int W)), l, q, e, p, z], h⟩ = .next ⟨[some (.val (.int n)), some (.val dr), some (.val (.int ((W * Q ^ E : Nat) : Int))), l, q, e, p, z'], h⟩) ∨
    (n < W * Q ^ E ∧ ∃ t, forR Φ (.name 7) b_law_rows_right_1 (rangeD 0 E) ⟨[some (.val (.int n)), some (.val dr), some (.val (.int W)), l, q, e, p, z], h⟩ = .ret (.val (.bl false)) ⟨t, h⟩) := by
  subst hq
  refine forR_loop (Φ := Φ) (t := .name 7) (b := b_law_rows_right_1) (rangeD 0 E)
    (fun i s => ∃ z, s = ⟨[some (.val (.int n)), some (.val dr), some (.val (.int ((W * Q ^ i : Nat) : Int))), l, some (.val (.int (Q : Nat))), e, p, z], h⟩ ∧ W * Q ^ i ≤ n)
    (fun r => (W * Q ^ E ≤ n ∧ ∃ z', r = .next ⟨[some (.val (.int n)), some (.val dr), some (.val (.int ((W * Q ^ E : Nat) : Int))), l, some (.val (.int (Q : Nat))), e, p, z'], h⟩) ∨ (n < W * Q ^ E ∧ ∃ t, r = .ret (.val (.bl false)) ⟨t, h⟩)) (fun i d s hd hI => ?_) (fun s hI => ?_) _ ⟨z, by simp, by simpa using hn⟩
  · obtain ⟨z, rfl, hle⟩ := hI
    obtain ⟨rfl, hi⟩ := range_get _ _ _ _ hd
    have m1 : binD .mul (.int ((W * Q ^ i : Nat) : Int)) (.int (Q : Nat)) = some (.val (.int ((W * Q ^ (i + 1) : Nat) : Int))) := by
      rw [mul64 (by simp only [Int.natAbs_natCast]; omega), Nat.pow_succ, ← Nat.mul_assoc]
      push_cast; rfl
    by_cases c : n < W * Q ^ (i + 1)
    · have c' : (n : Int) < ((W * Q ^ (i + 1) : Nat) : Int) := by exact_mod_cast c
      have run : exs Φ b_law_rows_right_1 ⟨[some (.val (.int n)), some (.val dr), some (.val (.int ((W * Q ^ i : Nat) : Int))), l, some (.val (.int (Q : Nat))), e, p, some (.val (.int (0 + (i : Int))))], h⟩ = .ret (.val (.bl false)) ⟨[some (.val (.int n)), some (.val dr), some (.val (.int ((W * Q ^ (i + 1) : Nat) : Int))), l, some (.val (.int (Q : Nat))), e, p, some (.val (.int (0 + (i : Int))))], h⟩ := by
        generalize W * Q ^ (i + 1) = t2 at *
        generalize W * Q ^ i = t1 at *
        simp [b_law_rows_right_1, m1, c']
      exact ⟨_, rfl, .inr (.inr (.inr ⟨_, _, run, .inr ⟨Nat.lt_of_lt_of_le c (Nat.mul_le_mul_left _ (Nat.pow_le_pow_right (by omega) (by omega))), _, rfl⟩⟩))⟩
    · have c' : ¬ (n : Int) < ((W * Q ^ (i + 1) : Nat) : Int) := fun w => c (by exact_mod_cast w)
      refine ⟨_, rfl, .inl ⟨⟨[some (.val (.int n)), some (.val dr), some (.val (.int ((W * Q ^ (i + 1) : Nat) : Int))), l, some (.val (.int (Q : Nat))), e, p, some (.val (.int (0 + (i : Int))))], h⟩, ?_, _, rfl, by omega⟩⟩
      generalize W * Q ^ (i + 1) = t2 at *
      generalize W * Q ^ i = t1 at *
      simp [b_law_rows_right_1, m1, c']
  · obtain ⟨z, rfl, hle⟩ := hI
    rw [range_len] at hle
    exact .inl ⟨hle, z, by rw [range_len]⟩
theorem true_mem (l : List Int) (F : Int → Bool) : (!isMem (.bl true) (l.map fun q => D.bl (F q))) = l.all fun q => !F q := by
  induction l with
  | nil => rfl
  | cons a l ih =>
    rw [List.map_cons, isMem_cons, List.all_cons, ← ih, deq_bl]
    cases F a <;> simp
theorem bl_dats (n : Nat) (F : Int → Bool) (l : List Int) : dats n (l.map fun q => D.bl (F q)) = true := by
  induction l with
  | nil => simp
  | cons a l ih => rw [List.map_cons]; simp [ih]
section
variable {fs : List Def} (K : LPapLk fs)
include K
mutual
theorem q_law_paper : ∀ (p : Pp), p.bd → ∀ (k : Nat), 2 * p.dep + 3 ≤ k → ∀ h, Phi fs k "_law_paper_right" [p.d] h = .ok (.val (.bl p.ok)) h
  | .mk n g rows, hb, k, hk, h => by
    obtain ⟨hb1, hb2, hb3⟩ := hb
    obtain ⟨k, rfl⟩ : ∃ k', k = k' + 3 := ⟨k - 3, by omega⟩
    have hk' : 2 * rows.dep + 1 ≤ k + 1 := by unfold Pp.dep at hk; omega
    rw [Phi_run K.prime rfl]
    unfold Pp.d Pp.ok
    by_cases c1 : n < 2
    · have c1' : ¬ 2 ≤ n := by omega
      simp [c__law_paper_right, startT, setAll, c1, c1', cutD, sEnd]
    · obtain ⟨N, rfl⟩ : ∃ N : Nat, n = N := ⟨n.toNat, by omega⟩
      have c1' : (2 : Int) ≤ N := by omega
      have N64 : N < 2 ^ 64 := by omega
      have hN1 : ((N : Int) - 1) = ((N - 1 : Nat) : Int) := by omega
      have er : Phi fs (k + 2) "_law_rows_right" [.int ((N : Int) - 1), .tup rows.ds] h = .ok (.val (.bl (rows.ok ((N : Int) - 1) 1 1))) h := by
        rw [Phi_run K.rows rfl]
        rw [hN1]
        have := q_law_rows_loop rows hb3 (k + 1) hk' (N - 1) (by omega) (by omega) (.tup rows.ds) 1 1 (by omega) (by omega) (by omega) none none none none h
        rcases this with ⟨w', l', x, y, z, z2, e, hw⟩ | ⟨s', t, e, rfl, hw⟩
        · simp [c__law_rows_right, startT, e, hw]
        · simp [c__law_rows_right, startT, e, hw]
      cases c2 : rows.ok ((N : Int) - 1) 1 1 with
      | false =>
        rw [c2] at er
        simp [c__law_paper_right, startT, setAll, c1, er, cutD, sEnd]
      | true =>
        rw [c2] at er
        have e1 := q_law_by K.by' (k + 1) g (N - 1) N (by omega) N64 (Nat.lt_of_lt_of_le (by omega : N - 1 < 2 ^ 64) (Nat.pow_le_pow_right (by omega) (by omega))) h
        have hq2 := Rws.ok_qs rows _ _ _ (by omega) c2
        rw [hN1] at er ⊢
        rw [Int.toNat_natCast]
        by_cases c3 : g ^ (N - 1) % N = 1
        · obtain ⟨s', ⟨y, rfl⟩, lc⟩ := lcR_I (Φ := Phi fs (k + 2)) (tg := .name 4) (cond := .none) (elt := .cmp (.call "_law_by" (.cons (.var 2) (.cons (.bin .fdiv (.bin .sub (.var 1) (.cst (.int 1))) (.idx (.var 4) (.cst (.int 0)))) (.cons (.var 1) .nil)))) (.cons .eq (.cst (.int 1)) .nil))
            (fun s => ∃ y, s = ⟨[some (.val (.tup [.str "prime", .int (N : Int), .int g, .tup rows.ds])), some (.val (.int (N : Int))), some (.val (.int g)), some (.val (.tup rows.ds)), y], h⟩)
            (rowF fun q => decide (g ^ (((N - 1 : Nat) : Int) / q).toNat % N = 1)) rows.ds ⟨[some (.val (.tup [.str "prime", .int (N : Int), .int g, .tup rows.ds])), some (.val (.int (N : Int))), some (.val (.int g)), some (.val (.tup rows.ds)), none], h⟩
            (by rw [Rws.ds_len]; unfold line; omega) ⟨_, rfl⟩ (fun d hd s hI => by
              obtain ⟨y, rfl⟩ := hI
              obtain ⟨q, e, p, rfl, hq⟩ := Rws.mem_ds rows d hd
              obtain ⟨Q, rfl⟩ : ∃ Q : Nat, q = Q := ⟨q.toNat, by have := hq2 q hq; omega⟩
              have hQ := hq2 _ hq
              have hQ64 : Q < 2 ^ 64 := by
                have := Rws.bd_qs rows hb3 _ hq
                omega
              have dv := div_q (n := N - 1) (q := Q) (by omega) hQ64
              have e2 := q_law_by K.by' (k + 1) g ((N - 1) / Q) N (by omega) N64 (Nat.lt_of_le_of_lt (Nat.div_le_self _ _) (Nat.lt_of_lt_of_le (by omega : N - 1 < 2 ^ 64) (Nat.pow_le_pow_right (by omega) (by omega)))) h
              refine ⟨⟨[some (.val (.tup [.str "prime", .int (N : Int), .int g, .tup rows.ds])), some (.val (.int (N : Int))), some (.val (.int g)), some (.val (.tup rows.ds)), some (.val (.tup [.int (Q : Int), .int e, p.d]))], h⟩, ?_, _, rfl⟩
              have e3 : (((N - 1 : Nat) : Int) / (Q : Int)).toNat = (N - 1) / Q := by rw [← Int.natCast_ediv, Int.toNat_natCast]
              simp only [rowF]
              rw [e3]
              generalize (N - 1) / Q = t at *
              simp [turnL, wipeT, MT.ids, bindT, setAll, hN1, dv, e2])
          rw [Rws.fm] at lc
          have ni : cmpD .notin (.bl true) (.lst (rows.qs.map fun q => D.bl (decide (g ^ (((N - 1 : Nat) : Int) / q).toNat % N = 1)))) = some (rows.qs.all fun q => !decide (g ^ (((N - 1 : Nat) : Int) / q).toNat % N = 1)) := by
            rw [cmp_ninL, bl_dats, true_mem]; simp
          simp [c__law_paper_right, startT, setAll, cutD, sEnd, c1, hN1, er, e1, c3, c1', lc, ni, backT, MT.ids, -cmp_ninL]
        · simp [c__law_paper_right, startT, setAll, cutD, sEnd, c1, hN1, er, e1, c3]
theorem q_law_rows_loop : ∀ (r : Rws), r.bd → ∀ (k : Nat), 2 * r.dep + 1 ≤ k → ∀ (n : Nat), 1 ≤ n → n < 2 ^ 64 → ∀ (dr : D) (w l : Int), 1 ≤ w → 1 ≤ l → w ≤ n → ∀ (x y z z2 : Option Sl) (h : List (List D)),
    (∃ w' l' x' y' z' z2', forR (Phi fs k) (.tup [4, 5, 6]) b_law_rows_right_0 r.ds ⟨[some (.val (.int n)), some (.val dr), some (.val (.int w)), some (.val (.int l)), x, y, z, z2], h⟩ = .next ⟨[some (.val (.int n)), some (.val dr), some (.val (.int w')), some (.val (.int l')), x', y', z', z2'], h⟩ ∧ r.ok n w l = decide (w' = n)) ∨
    (∃ (s' : List (List D)) (t : List (Option Sl)), forR (Phi fs k) (.tup [4, 5, 6]) b_law_rows_right_0 r.ds ⟨[some (.val (.int n)), some (.val dr), some (.val (.int w)), some (.val (.int l)), x, y, z, z2], h⟩ = .ret (.val (.bl false)) ⟨t, s'⟩ ∧ s' = h ∧ r.ok n w l = false)
  | .nil, hb, k, hk, n, hn, hn2, dr, w, l, hw, hl, hwn, x, y, z, z2, h => .inl ⟨w, l, x, y, z, z2, rfl, rfl⟩
  | .cons q e p r, hb, k, hk, n, hn, hn2, dr, w, l, hw, hl, hwn, x, y, z, z2, h => by
    obtain ⟨hb1, hb2, hb3⟩ := hb
    unfold Rws.dep at hk
    unfold Rws.ds Rws.ok
    rw [forR_cons _ _ _ _ _ _ ⟨[some (.val (.int n)), some (.val dr), some (.val (.int w)), some (.val (.int l)), some (.val (.int q)), some (.val (.int e)), some (.val p.d), z2], h⟩ (by rfl)]
    obtain ⟨k, rfl⟩ : ∃ k', k = k' + 1 := ⟨k - 1, by omega⟩
    have ep := q_law_paper p hb2 (k + 1) (by omega) h
    have hpd : ∃ n2 g2 r2, p = .mk n2 g2 r2 := by cases p; exact ⟨_, _, _, rfl⟩
    obtain ⟨n2, g2, r2, rfl⟩ := hpd
    by_cases c1 : l < q
    rotate_left
    · have c1' : q ≤ l := by omega
      exact .inr ⟨h, _, by simp [b_law_rows_right_0, c1']; rfl, rfl, by rw [decide_eq_false c1]; simp⟩
    have c1' : ¬ q ≤ l := by omega
    by_cases c2 : 1 ≤ e
    rotate_left
    · have c2' : e < 1 := by omega
      exact .inr ⟨h, _, by simp [b_law_rows_right_0, c1', c2']; rfl, rfl, by rw [decide_eq_false c2]; simp⟩
    have c2' : ¬ e < 1 := by omega
    have hbits := bits_le (n := (n : Int)) (by omega) (by simpa using hn2)
    by_cases c6 : e ≤ 300
    rotate_left
    · have c6' : 300 < e := by omega
      have c5 : ¬ e ≤ bitsI (n : Int) := by omega
      exact .inr ⟨h, _, by simp [b_law_rows_right_0, c1', c2', c6']; rfl, rfl, by rw [decide_eq_false c5]; simp⟩
    have c6' : ¬ 300 < e := by omega
    by_cases c3 : n2 = q
    rotate_left
    · exact .inr ⟨h, _, by unfold Pp.d; simp [b_law_rows_right_0, c1', c2', c3, c6']; rfl, rfl, by unfold Pp.num; rw [decide_eq_false c3]; simp⟩
    subst c3
    cases c4 : (Pp.mk n2 g2 r2).ok with
    | false =>
      rw [c4] at ep
      unfold Pp.d at ep
      exact .inr ⟨h, _, by unfold Pp.d; simp [b_law_rows_right_0, c1', c2', c6', ep]; rfl, rfl, by simp⟩
    | true =>
    rw [c4] at ep
    unfold Pp.d at ep
    obtain ⟨E, rfl⟩ : ∃ E : Nat, e = E := ⟨e.toNat, by omega⟩
    obtain ⟨Q, rfl⟩ : ∃ Q : Nat, n2 = Q := ⟨n2.toNat, by omega⟩
    obtain ⟨W, rfl⟩ : ∃ W : Nat, w = W := ⟨w.toNat, by omega⟩
    have sm : smallI (E : Int) = true := by simp only [smallI, Bool.and_eq_true, decide_eq_true_eq]; omega
    have hpe : ((W * Q ^ E : Nat) : Int) = (W : Int) * (Q : Int) ^ ((E : Int)).toNat := by rw [Int.toNat_natCast]; push_cast; rfl
    have big : n < W * Q ^ E → (decide ((E : Int) ≤ bitsI n) && r.ok n ((W : Int) * (Q : Int) ^ ((E : Int)).toNat) Q) = false := fun hb => by
      rw [← hpe, Rws.ok_big r n _ Q (by omega) (by
        have : 1 ≤ W * Q ^ E := Nat.mul_le_mul (by omega : 1 ≤ W) (Nat.one_le_pow _ _ (by omega))
        exact_mod_cast this) (by exact_mod_cast hb), Bool.and_false]
    have hin := law_rows_inner (Phi fs (k + 1)) n W Q E (by omega) (by omega) hn2 (by omega) dr (some (.val (.int l))) (some (.val (.int (Q : Int)))) (some (.val (.int (E : Int)))) (some (.val (Pp.mk (Q : Int) g2 r2).d)) z2 rfl h
    rcases hin with ⟨hle, z', ei⟩ | ⟨hgt, t, ei⟩
    · have c5 : (E : Int) ≤ bitsI n := by
        apply Classical.byContradiction
        intro w
        have h1 := bits_lt (n := (n : Int)) (by omega)
        have h2 : 2 ^ (bitsI n).toNat ≤ 2 ^ E := Nat.pow_le_pow_right (by omega) (by omega)
        have h3 : 2 ^ E ≤ Q ^ E := Nat.pow_le_pow_left (by omega) E
        have h4 : Q ^ E ≤ W * Q ^ E := Nat.le_mul_of_pos_left _ (by omega)
        have h5 : n < 2 ^ (bitsI n).toNat := by exact_mod_cast h1
        omega
      have run : exs (Phi fs (k + 1)) b_law_rows_right_0 ⟨[some (.val (.int n)), some (.val dr), some (.val (.int W)), some (.val (.int l)), some (.val (.int Q)), some (.val (.int E)), some (.val (Pp.mk (Q : Int) g2 r2).d), z2], h⟩ = .next ⟨[some (.val (.int n)), some (.val dr), some (.val (.int ((W * Q ^ E : Nat) : Int))), some (.val (.int Q)), some (.val (.int Q)), some (.val (.int E)), some (.val (Pp.mk (Q : Int) g2 r2).d), z'], h⟩ := by
        unfold Pp.d at ei ⊢
        clear big hpe hle
        generalize W * Q ^ E = t at *
        simp [b_law_rows_right_0, c1', c2', c6', ep, sm, ei]
      rw [run]
      dsimp only
      have := q_law_rows_loop r hb3 (k + 1) (by omega) n hn hn2 dr ((W * Q ^ E : Nat) : Int) Q (by
        have : 1 ≤ W * Q ^ E := Nat.mul_le_mul (by omega : 1 ≤ W) (Nat.one_le_pow _ _ (by omega))
        exact_mod_cast this) (by omega) (by exact_mod_cast hle) (some (.val (.int Q))) (some (.val (.int E))) (some (.val (Pp.mk (Q : Int) g2 r2).d)) z' h
      rw [decide_eq_true c1, decide_eq_true c2, decide_eq_true c5, ← hpe]
      unfold Pp.num
      simp only [decide_true, Bool.and_self, Bool.true_and]
      exact this
    · have run : exs (Phi fs (k + 1)) b_law_rows_right_0 ⟨[some (.val (.int n)), some (.val dr), some (.val (.int W)), some (.val (.int l)), some (.val (.int Q)), some (.val (.int E)), some (.val (Pp.mk (Q : Int) g2 r2).d), z2], h⟩ = .ret (.val (.bl false)) ⟨t, h⟩ := by
        unfold Pp.d at ei ⊢
        simp [b_law_rows_right_0, c1', c2', c6', ep, sm, ei]
      rw [run]
      exact .inr ⟨h, t, rfl, rfl, by rw [Bool.and_assoc, big hgt, Bool.and_false]⟩
end
end
end PI

namespace PI
open PySem L2 NT
/-! ### right papers show primes -/
theorem natN {a : Int} (h : 0 ≤ a) : ∃ n : Nat, a = n := ⟨a.toNat, by omega⟩
mutual
theorem Pp.sound : ∀ p : Pp, p.ok = true → ∃ N : Nat, p.num = N ∧ Prime N
  | .mk n g rows, h => by
    unfold Pp.ok at h
    simp only [Bool.and_eq_true, decide_eq_true_eq] at h
    obtain ⟨⟨⟨h1, h2⟩, h3⟩, h4⟩ := h
    obtain ⟨N, rfl⟩ := natN (a := n) (by omega)
    obtain ⟨L, e1, e2, e3⟩ := Rws.sound rows ((N : Int) - 1) 1 1 (by omega) h2
    have hN1 : ((N : Int) - 1) = ((N - 1 : Nat) : Int) := by omega
    rw [hN1] at h3 h4 e3
    rw [Int.toNat_natCast] at h3
    refine ⟨N, rfl, pratt (by omega) g h3 fun q hq hd => ?_⟩
    have hp : prodP L = N - 1 := by rw [Int.one_mul] at e3; exact (Int.ofNat.inj e3).symm
    obtain ⟨x, hx, hxq⟩ := prodP_dvd hq (L := L) (fun x hx => (e2 x hx).1) (by rw [hp]; exact hd)
    have hm : (q : Int) ∈ rows.qs := by
      rw [e1]
      exact List.mem_map.mpr ⟨x, hx, by rw [hxq]⟩
    have := List.all_eq_true.mp h4 _ hm
    rw [Bool.not_eq_true', decide_eq_false_iff_not, ← Int.natCast_ediv, Int.toNat_natCast] at this
    exact this
theorem Rws.sound : ∀ (r : Rws) (n w l : Int), 1 ≤ l → r.ok n w l = true → ∃ L : List (Nat × Nat), r.qs = L.map (fun x => (x.1 : Int)) ∧ (∀ x ∈ L, Prime x.1 ∧ 1 ≤ x.2) ∧ n = w * (prodP L : Nat)
  | .nil, n, w, l, hl, h => by
    unfold Rws.ok at h
    exact ⟨[], rfl, by simp, by rw [decide_eq_true_eq] at h; simp [prodP, h]⟩
  | .cons q e p r, n, w, l, hl, h => by
    unfold Rws.ok at h
    simp only [Bool.and_eq_true, decide_eq_true_eq] at h
    obtain ⟨⟨⟨⟨⟨a1, a2⟩, a3⟩, a4⟩, a5⟩, a6⟩ := h
    obtain ⟨N, hN, hp⟩ := Pp.sound p a4
    obtain ⟨L, e1, e2, e3⟩ := Rws.sound r n (w * q ^ e.toNat) q (by omega) a6
    rw [a3] at hN
    refine ⟨(N, e.toNat) :: L, ?_, ?_, ?_⟩
    · unfold Rws.qs; rw [e1, List.map_cons, hN]
    · intro x hx
      rcases List.mem_cons.mp hx with z | z
      · subst z; exact ⟨hp, by show 1 ≤ e.toNat; omega⟩
      · exact e2 x z
    · rw [e3, hN, prodP]; push_cast; rw [Int.mul_assoc]
end
/-- rows that are right for n: their numbers are the primes of n -/
theorem Rws.primes {r : Rws} {n : Nat} (h : r.ok n 1 1 = true) : (∀ q ∈ r.qs, ∃ Q : Nat, q = Q ∧ Prime Q ∧ Q ∣ n) ∧ ∀ Q, Prime Q → Q ∣ n → (Q : Int) ∈ r.qs := by
  obtain ⟨L, e1, e2, e3⟩ := Rws.sound r n 1 1 (by omega) h
  have hp : prodP L = n := by rw [Int.one_mul] at e3; exact (Int.ofNat.inj e3).symm
  constructor
  · intro q hq
    rw [e1] at hq
    obtain ⟨x, hx, rfl⟩ := List.mem_map.mp hq
    exact ⟨x.1, rfl, (e2 x hx).1, hp ▸ dvd_prodP x hx (e2 x hx).2⟩
  · intro Q hQ hd
    obtain ⟨x, hx, hxq⟩ := prodP_dvd hQ (L := L) (fun x hx => (e2 x hx).1) (by rw [hp]; exact hd)
    rw [e1]
    exact List.mem_map.mpr ⟨x, hx, by rw [hxq]⟩
/-! ### the program's papers -/
structure FacLk (fs : List Def) : Prop where
  least : lookD fs "least_factor" = some c_least_factor
  parts : lookD fs "parts_of" = some c_parts_of
  rowsOf : lookD fs "rows_of" = some c_rows_of
  power : lookD fs "power_by" = some c_power_by
  full : lookD fs "_has_full_order" = some c__has_full_order
  paper : lookD fs "_paper" = some c__paper
def fullB (g : Int) (n : Nat) (L : List (Nat × Nat)) : Bool := decide (g ^ (n - 1) % n = 1) && L.all fun x => !decide (g ^ ((n - 1) / x.1) % n = 1)
def partF (F : Nat → Bool) : D → Option D
  | .tup [.int q, _] => some (.bl (F q.toNat))
  | _ => none
theorem part_fm (F : Nat → Bool) : ∀ L : List (Nat × Nat), (L.map partD).filterMap (partF F) = L.map fun x => D.bl (F x.1)
  | [] => rfl
  | x :: L => by
    rw [List.map_cons, List.filterMap_cons_some (f := partF F) (b := .bl (F x.1)) rfl, part_fm F L, List.map_cons]
theorem bls_mapP (F : Nat → Bool) : ∀ l : List (Nat × Nat), blsOf (l.map fun q => D.bl (F q.1)) = some (l.map fun x => F x.1)
  | [] => rfl
  | a :: l => by rw [List.map_cons, blsOf, bls_mapP F l]; rfl
theorem len_le {L : List (Nat × Nat)} (h : ∀ x ∈ L, Prime x.1 ∧ 1 ≤ x.2) : 2 ^ L.length ≤ prodP L := by
  induction L with
  | nil => simp [prodP]
  | cons x L ih =>
    obtain ⟨q, e⟩ := x
    obtain ⟨h1, h2⟩ := h _ List.mem_cons_self
    rw [List.length_cons, Nat.pow_succ, prodP, Nat.mul_comm]
    refine Nat.mul_le_mul ?_ (ih fun x hx => h x (List.mem_cons_of_mem _ hx))
    exact Nat.le_trans h1.1 (Nat.le_self_pow (by simp at h2; omega) q)
theorem parts_len {n : Nat} {L : List (Nat × Nat)} (h : PartsOK n L) (hn : n < 2 ^ 64) : L.length < 64 := by
  have := len_le h.2.1
  rw [h.1] at this
  apply Classical.byContradiction
  intro z
  have := Nat.pow_le_pow_right (n := 2) (by omega) (by omega : 64 ≤ L.length)
  omega
theorem parts_mem {n : Nat} {L : List (Nat × Nat)} (h : PartsOK n L) (hn : 1 ≤ n) {x : Nat × Nat} (hx : x ∈ L) : x.1 ∣ n ∧ x.1 ≤ n ∧ Prime x.1 ∧ 1 ≤ x.2 := by
  have h1 := h.2.1 x hx
  have h2 : x.1 ∣ n := h.1 ▸ dvd_prodP x hx h1.2
  exact ⟨h2, Nat.le_of_dvd (by omega) h2, h1.1, h1.2⟩
section
variable {fs : List Def} (K : FacLk fs)
include K
theorem q_full (k : Nat) (g : Int) (n : Nat) (L : List (Nat × Nat)) (hn : 2 ≤ n) (hn2 : n < 2 ^ 64) (hL : PartsOK (n - 1) L) (h : List (List D)) :
    Phi fs (k + 2) "_has_full_order" [.int g, .int n, .lst (L.map partD)] h = .ok (.val (.bl (fullB g n L))) h := by
  rw [Phi_run K.full rfl]
  have hN1 : ((n : Int) - 1) = ((n - 1 : Nat) : Int) := by omega
  have e1 := q_power K.power k g (n - 1) n (by omega) hn2 h
  have hl := parts_len hL (by omega)
  obtain ⟨s', ⟨x, y, rfl⟩, lc⟩ := lcR_I (Φ := Phi fs (k + 1)) (tg := .tup [3, 4]) (cond := .none) (elt := .cmp (.call "power_by" (.cons (.var 0) (.cons (.bin .fdiv (.bin .sub (.var 1) (.cst (.int 1))) (.var 3)) (.cons (.var 1) .nil)))) (.cons .ne (.cst (.int 1)) .nil))
    (fun s => ∃ x y, s = ⟨[some (.val (.int g)), some (.val (.int (n : Int))), some (.val (.lst (L.map partD))), x, y], h⟩)
    (partF fun q => !decide (g ^ ((n - 1) / q) % n = 1)) (L.map partD) ⟨[some (.val (.int g)), some (.val (.int (n : Int))), some (.val (.lst (L.map partD))), none, none], h⟩
    (by rw [List.length_map]; unfold line; omega) ⟨_, _, rfl⟩ (fun d hd s hI => by
      obtain ⟨x, y, rfl⟩ := hI
      obtain ⟨⟨q, e⟩, hx, rfl⟩ := List.mem_map.mp hd
      obtain ⟨m1, m2, m3, m4⟩ := parts_mem hL (by omega) hx
      have q1 : 1 ≤ q := m3.pos
      have dv := div_q (n := n - 1) (q := q) q1 (by simp at m2; omega)
      have e2 := q_power K.power k g ((n - 1) / q) n (by omega) hn2 h
      refine ⟨⟨[some (.val (.int g)), some (.val (.int (n : Int))), some (.val (.lst (L.map partD))), some (.val (.int q)), some (.val (.int e))], h⟩, ?_, _, _, rfl⟩
      simp only [partD, partF, Int.toNat_natCast]
      obtain ⟨t, ht⟩ : ∃ t, (n - 1) / q = t := ⟨_, rfl⟩
      simp only [ht] at dv e2 ⊢
      simp [turnL, wipeT, MT.ids, bindT, setAll, hN1, dv, e2])
  rw [part_fm] at lc
  have bl := blt_all (bls_mapP (fun q => !decide (g ^ ((n - 1) / q) % n = 1)) L)
  have al : (L.map fun x => !decide (g ^ ((n - 1) / x.1) % n = 1)).all id = L.all fun x => !decide (g ^ ((n - 1) / x.1) % n = 1) := by rw [List.all_map]; rfl
  rw [al] at bl
  unfold fullB
  by_cases c : g ^ (n - 1) % n = 1
  · simp [c__has_full_order, startT, hN1, e1, c, lc, bl, backT, MT.ids]
  · simp [c__has_full_order, startT, hN1, e1, c]
/-- what is asked of a paper -/
def PapOK (n : Nat) (dp : Nat) (p : Pp) : Prop := p.num = n ∧ p.ok = true ∧ p.bd ∧ p.dep ≤ dp
def RowOK (n : Nat) (dp : Nat) (r : Rws) : Prop := r.ok n 1 1 = true ∧ r.bd ∧ r.dep ≤ dp ∧ r.len ≤ 64
omit K in
theorem rows_lc (Φ : Fns) (h : List (List D)) (dp : Nat) (a : D) : ∀ (L : List (Nat × Nat)) (acc : List D) (x y : Option Sl), acc.length + L.length ≤ 1000 →
    (∀ z ∈ L, z.1 < 2 ^ 63 ∧ ∃ p, PapOK z.1 dp p ∧ Φ "_paper" [.int z.1] h = .ok (.val p.d) h) → (∀ z ∈ L, Prime z.1 ∧ 1 ≤ z.2) → L.Pairwise (fun x y => x.1 < y.1) →
    ∃ r x' y', lcGo (turnL Φ (.tup [1, 2]) .none (.tup (.cons (.var 1) (.cons (.var 2) (.cons (.call "_paper" (.cons (.var 1) .nil)) .nil))))) acc (L.map partD) ⟨[some (.val a), x, y], h⟩ = .ok (acc ++ Rws.ds r) ⟨[some (.val a), x', y'], h⟩ ∧
      r.len = L.length ∧ r.bd ∧ r.dep ≤ dp + 1 ∧ ∀ (n w l : Nat), 1 ≤ w → w * prodP L = n → (∀ z ∈ L, l < z.1) → r.ok n w l = true
  | [], acc, x, y, hl, hp, hpr, hpw => ⟨.nil, x, y, by simp [lcGo, Rws.ds], rfl, trivial, Nat.zero_le _, fun n w l hw e _ => by
      unfold Rws.ok
      rw [prodP, Nat.mul_one] at e
      rw [e]; simp⟩
  | (q, e) :: L, acc, x, y, hl, hp, hpr, hpw => by
    obtain ⟨hq63, p, ⟨p1, p2, p3, p4⟩, ep⟩ := hp _ List.mem_cons_self
    rw [List.pairwise_cons] at hpw
    rw [List.length_cons] at hl
    obtain ⟨r, x', y', e1, r1, r2, r3, r4⟩ := rows_lc Φ h dp a L (acc ++ [.tup [.int q, .int e, p.d]]) (some (.val (.int q))) (some (.val (.int e))) (by simp; omega) (fun z hz => hp z (List.mem_cons_of_mem _ hz)) (fun z hz => hpr z (List.mem_cons_of_mem _ hz)) hpw.2
    have hq := hpr _ List.mem_cons_self
    simp only at ep p1 hq hq63
    refine ⟨.cons q e p r, x', y', ?_, ?_, ⟨by simp; omega, p3, r2⟩, ?_, fun n w l hw en hlt => ?_⟩
    · rw [List.map_cons, lcGo]
      have t : turnL Φ (.tup [1, 2]) .none (.tup (.cons (.var 1) (.cons (.var 2) (.cons (.call "_paper" (.cons (.var 1) .nil)) .nil)))) (partD (q, e)) ⟨[some (.val a), x, y], h⟩ = .ok (some (.tup [.int q, .int e, p.d])) ⟨[some (.val a), some (.val (.int q)), some (.val (.int e))], h⟩ := by
        simp [turnL, wipeT, MT.ids, bindT, setAll, partD, ep]
      rw [t]
      dsimp only
      rw [if_pos (by unfold line; omega), e1]
      have hds : (Rws.cons q e p r).ds = .tup [.int q, .int e, p.d] :: r.ds := rfl
      rw [hds]
      simp
    · unfold Rws.len; rw [r1]; rfl
    · unfold Rws.dep; omega
    · rw [prodP] at en
      have c1 : (l : Int) < q := by have := hlt _ List.mem_cons_self; simp at this; omega
      have c5 : (e : Int) ≤ bitsI (n : Int) := by
        apply Classical.byContradiction
        intro z
        have h1 := bits_lt (n := (n : Int)) (by omega)
        have h2 : 2 ^ (bitsI n).toNat ≤ 2 ^ e := Nat.pow_le_pow_right (by omega) (by omega)
        have h3 : 2 ^ e ≤ q ^ e := Nat.pow_le_pow_left hq.1.1 e
        have h4 : 1 ≤ prodP L := Nat.le_trans Nat.one_le_two_pow (len_le fun z hz => hpr z (List.mem_cons_of_mem _ hz))
        have h6 : q ^ e ≤ q ^ e * prodP L := Nat.le_mul_of_pos_right _ h4
        have h7 : q ^ e * prodP L ≤ w * (q ^ e * prodP L) := Nat.le_mul_of_pos_left _ hw
        have h5 : n < 2 ^ (bitsI n).toNat := by exact_mod_cast h1
        omega
      have h9 := r4 n (w * q ^ e) q (Nat.mul_le_mul hw (Nat.one_le_pow _ _ hq.1.pos)) (by rw [Nat.mul_assoc]; exact en) fun z hz => hpw.1 z hz
      unfold Rws.ok
      rw [decide_eq_true c1, decide_eq_true (by omega : (1 : Int) ≤ e), decide_eq_true p1, p2, decide_eq_true c5, Int.toNat_natCast]
      have hw2 : ((w * q ^ e : Nat) : Int) = (w : Int) * (q : Int) ^ e := by push_cast; rfl
      rw [← hw2, h9]
      rfl
theorem rows_step (dp k m : Nat) (hm : 1 ≤ m) (hm2 : m < 2 ^ 63) (h : List (List D)) (hp : ∀ q, Prime q → q ∣ m → ∃ p, PapOK q dp p ∧ Phi fs (k + 2) "_paper" [.int q] h = .ok (.val p.d) h) :
    ∃ r, RowOK m (dp + 1) r ∧ Phi fs (k + 3) "rows_of" [.int m] h = .ok (.val (.tup r.ds)) h := by
  rw [Phi_run K.rowsOf rfl]
  obtain ⟨L, hL, eL⟩ := q_parts K.least K.parts k m hm (by omega) h
  have hl := parts_len hL (by omega)
  obtain ⟨r, x', y', e1, r1, r2, r3, r4⟩ := rows_lc (Phi fs (k + 2)) h dp (.int m) L [] none none (by simp; omega) (fun z hz => by
    obtain ⟨m1, m2, m3, m4⟩ := parts_mem hL hm hz
    exact ⟨by omega, hp z.1 m3 m1⟩) hL.2.1 hL.2.2
  refine ⟨r, ⟨?_, r2, r3, by omega⟩, ?_⟩
  · have := r4 m 1 1 (by omega) (by rw [Nat.one_mul]; exact hL.1) fun z hz => by have := (hL.2.1 z hz).1.1; omega
    exact this
  · have lc : lcR (Phi fs (k + 2)) (.tup (.cons (.var 1) (.cons (.var 2) (.cons (.call "_paper" (.cons (.var 1) .nil)) .nil)))) (.tup [1, 2]) .none (L.map partD) ⟨[some (.val (.int m)), none, none], h⟩ = .ok (.own r.ds) ⟨[some (.val (.int m)), none, none], h⟩ := by
      unfold lcR
      rw [e1]
      simp [backT, MT.ids]
    simp [c_rows_of, startT, eL, lc]
theorem paper_step (dp k n : Nat) (hn : Prime n) (hn2 : n < 2 ^ 63) (h : List (List D)) (hp : ∀ q, Prime q → q ∣ n - 1 → ∃ p, PapOK q dp p ∧ Phi fs (k + 2) "_paper" [.int q] h = .ok (.val p.d) h) :
    ∃ p, PapOK n (dp + 1) p ∧ Phi fs (k + 4) "_paper" [.int n] h = .ok (.val p.d) h := by
  rw [Phi_run K.paper rfl]
  have n2 := hn.1
  have hN1 : ((n : Int) - 1) = ((n - 1 : Nat) : Int) := by omega
  obtain ⟨L, hL, eL⟩ := q_parts K.least K.parts (k + 1) (n - 1) (by omega) (by omega) h
  obtain ⟨r, ⟨r1, r2, r3, r4⟩, er⟩ := rows_step K dp k (n - 1) (by omega) (by omega) h hp
  have hpr := primitive hn
  obtain ⟨g0, g1, g2, g3⟩ := hpr
  have fg0 : fullB g0 n L = true := by
    unfold fullB
    simp only [Bool.and_eq_true, decide_eq_true_eq, List.all_eq_true, Bool.not_eq_true', decide_eq_false_iff_not]
    refine ⟨fermat hn g0 fun z => ?_, fun x hx => ?_⟩
    · have := Int.le_of_dvd (by omega) z; omega
    · obtain ⟨m1, m2, m3, m4⟩ := parts_mem hL (by omega) hx
      exact g3 x.1 m3 m1
  have loop := ex_loop (Φ := Phi fs (k + 3)) (c := c_paper_0) (b := b_paper_0)
    (fun s => (∃ g : Nat, s = ⟨[some (.val (.int n)), some (.own (L.map partD)), some (.val (.int g))], h⟩ ∧ 1 ≤ g ∧ g ≤ g0) ∨ ∃ g : Nat, s = ⟨[some (.val (.int n)), some (.val (.lst (L.map partD))), some (.val (.int g))], h⟩ ∧ 1 ≤ g ∧ g ≤ g0)
    (fun s => g0 - (intAt 2 s).toNat)
    (fun q => ∃ (g : Nat) (x : Option Sl), fullB g n L = true ∧ q = .next ⟨[some (.val (.int n)), x, some (.val (.int g))], h⟩) (fun s hI => by
      have main : ∀ (g : Nat) (o : Option Sl), (o = some (.own (L.map partD)) ∨ o = some (.val (.lst (L.map partD)))) → 1 ≤ g → g ≤ g0 → (∃ s1, toT (toP (ev (Phi fs (k + 3)) c_paper_0 ⟨[some (.val (.int n)), o, some (.val (.int g))], h⟩)) = .ok false s1 ∧ ∃ (g : Nat) (x : Option Sl), fullB g n L = true ∧ R.next s1 = .next ⟨[some (.val (.int n)), x, some (.val (.int g))], h⟩) ∨
          ∃ s1, toT (toP (ev (Phi fs (k + 3)) c_paper_0 ⟨[some (.val (.int n)), o, some (.val (.int g))], h⟩)) = .ok true s1 ∧ ∃ s2, exs (Phi fs (k + 3)) b_paper_0 s1 = .next s2 ∧ (∃ g : Nat, s2 = ⟨[some (.val (.int n)), some (.val (.lst (L.map partD))), some (.val (.int g))], h⟩ ∧ 1 ≤ g ∧ g ≤ g0) ∧ g0 - (intAt 2 s2).toNat < g0 - (intAt 2 (⟨[some (.val (.int n)), o, some (.val (.int g))], h⟩ : S)).toNat := by
        intro g o ho hg1 hg2
        have ef := q_full K (k + 1) g n L n2 (by omega) hL h
        cases hb : fullB g n L with
        | true =>
          rw [hb] at ef
          refine .inl ⟨⟨[some (.val (.int n)), some (.val (.lst (L.map partD))), some (.val (.int g))], h⟩, ?_, g, _, hb, rfl⟩
          rcases ho with rfl | rfl <;> simp [c_paper_0, ef]
        | false =>
          rw [hb] at ef
          have hne : g ≠ g0 := fun z => by subst z; rw [hb] at fg0; cases fg0
          have n3 : (2 : Int) < n := by omega
          refine .inr ⟨⟨[some (.val (.int n)), some (.val (.lst (L.map partD))), some (.val (.int g))], h⟩, ?_, ⟨[some (.val (.int n)), some (.val (.lst (L.map partD))), some (.val (.int ((g + 1 : Nat) : Int)))], h⟩, by simp [b_paper_0], ⟨g + 1, rfl, by omega, by omega⟩, ?_⟩
          · rcases ho with rfl | rfl <;> simp [c_paper_0, ef, n3]
          · simp only [intAt_mk, List.getElem?_cons_succ, List.getElem?_cons_zero]
            rw [Int.toNat_natCast, Int.toNat_natCast]; omega
      rcases hI with ⟨g, rfl, h1, h2⟩ | ⟨g, rfl, h1, h2⟩
      · rcases main g _ (.inl rfl) h1 h2 with ⟨s1, a, b⟩ | ⟨s1, a, s2, b, c, d⟩
        · exact .inl ⟨s1, a, b⟩
        · obtain ⟨g', c1, c2⟩ := c
          exact .inr ⟨s1, a, .inl ⟨s2, b, .inr ⟨g', c1, c2⟩, d⟩⟩
      · rcases main g _ (.inr rfl) h1 h2 with ⟨s1, a, b⟩ | ⟨s1, a, s2, b, c, d⟩
        · exact .inl ⟨s1, a, b⟩
        · obtain ⟨g', c1, c2⟩ := c
          exact .inr ⟨s1, a, .inl ⟨s2, b, .inr ⟨g', c1, c2⟩, d⟩⟩)
    ⟨[some (.val (.int n)), some (.own (L.map partD)), some (.val (.int 1))], h⟩ (.inl ⟨1, rfl, by omega, g1⟩)
  obtain ⟨g, x, hf, e⟩ := loop
  refine ⟨.mk n g r, ⟨rfl, ?_, ⟨by simp; omega, r4, r2⟩, by unfold Pp.dep; exact r3⟩, ?_⟩
  · unfold fullB at hf
    simp only [Bool.and_eq_true, decide_eq_true_eq, List.all_eq_true, Bool.not_eq_true', decide_eq_false_iff_not] at hf
    unfold Pp.ok
    rw [hN1, r1, Int.toNat_natCast]
    simp only [Bool.and_eq_true, decide_eq_true_eq, List.all_eq_true, Bool.not_eq_true', decide_eq_false_iff_not]
    refine ⟨⟨⟨by omega, trivial⟩, hf.1⟩, fun q hq => ?_⟩
    obtain ⟨Q, rfl, q1, q2⟩ := (Rws.primes r1).1 q hq
    rw [← Int.natCast_ediv, Int.toNat_natCast]
    obtain ⟨x, hx, hxq⟩ := prodP_dvd q1 (L := L) (fun x hx => (hL.2.1 x hx).1) (by rw [hL.1]; exact q2)
    rw [← hxq]
    exact hf.2 x hx
  · unfold Pp.d
    simp [c__paper, startT, hN1, eL, e, er]
end
end PI

namespace PI
open PySem L2 NT
/-! ### _checked _told -/
def c__checked : Def := ⟨"_checked", 1, 1,
  (.cons (.ite (.bop false (.cons (.cmp (.var 0) (.cons .lt (.cst (.int 1)) .nil)) (.cons (.cmp (.bin .mod (.var 0) (.cst (.int 2))) (.cons .eq (.cst (.int 0)) .nil)) .nil))) (.cons (.raise "BadNumber" 0 (.cst (.str "number")))
  .nil) .nil)
  .nil)⟩
def c__told : Def := ⟨"_told", 1, 4,
  (.cons (.set (.tup [1, 2, 3]) (.var 0))
  (.cons (.ite (.bop true (.cons (.cmp (.var 1) (.cons .eq (.cst (.int 0)) .nil)) (.cons (.cmp (.var 2) (.cons .gt (.cst (.int 1)) .nil)) .nil))) (.cons (.ret (.cst (.int 0)))
  .nil) .nil)
  (.cons (.ret (.var 3))
  .nil)))⟩
section
variable {fs : List Def} (K : FacLk fs)
theorem PapOK.mono {n a b : Nat} {p : Pp} (h : PapOK n a p) (l : a ≤ b) : PapOK n b p := ⟨h.1, h.2.1, h.2.2.1, Nat.le_trans h.2.2.2 l⟩
include K
theorem paper_all : ∀ (j n : Nat), Prime n → n < 2 ^ j → n < 2 ^ 63 → ∀ (k : Nat) (h : List (List D)), 2 * j + 4 ≤ k → ∃ p, PapOK n j p ∧ Phi fs k "_paper" [.int n] h = .ok (.val p.d) h
  | 0, n, hn, hj, _, _, _, _ => by have := hn.1; simp at hj; omega
  | j + 1, n, hn, hj, h63, k, h, hk => by
    obtain ⟨k, rfl⟩ : ∃ k', k = k' + 4 := ⟨k - 4, by omega⟩
    refine paper_step K j k n hn h63 h fun q hq hd => ?_
    have n2 := hn.1
    have hle := Nat.le_of_dvd (by have := hq.1; rcases (by omega : n - 1 = 0 ∨ 0 < n - 1) with z | z
                                  · omega
                                  · exact z) hd
    have hq2 := hq.1
    have j1 : 1 ≤ j := by
      rcases Nat.eq_zero_or_pos j with z | z
      · subst z; simp at hj; omega
      · exact z
    by_cases q2 : q = 2
    · subst q2
      obtain ⟨p, hp, e⟩ := paper_step K 0 (k - 2) 2 prime_two (by omega) h fun q hq hd => by
        have := Nat.le_of_dvd (by omega) hd
        have := hq.1
        omega
      rw [show k - 2 + 4 = k + 2 by omega] at e
      exact ⟨p, hp.mono (by omega), e⟩
    · have qo : ¬ 2 ∣ q := fun z => q2 (prime_two.eq hq z).symm
      have no : n % 2 = 1 := by
        rcases (by omega : n % 2 = 1 ∨ n % 2 = 0) with z | z
        · exact z
        · have := prime_two.eq hn (Nat.dvd_of_mod_eq_zero z)
          omega
      have hd2 : q ∣ (n - 1) / 2 := by
        have e : n - 1 = 2 * ((n - 1) / 2) := by omega
        rw [e] at hd
        rcases hq.dvd_mul hd with w | w
        · have := Nat.le_of_dvd (by omega) w; omega
        · exact w
      have := Nat.le_of_dvd (by omega) hd2
      exact paper_all j q hq (by rw [Nat.pow_succ] at hj; omega) (by omega) (k + 2) h (by omega)
theorem rows_all (j m : Nat) (hm : 1 ≤ m) (hj : m < 2 ^ j) (h63 : m < 2 ^ 63) (k : Nat) (hk : 2 * j + 5 ≤ k) (h : List (List D)) : ∃ r, RowOK m (j + 1) r ∧ Phi fs k "rows_of" [.int m] h = .ok (.val (.tup r.ds)) h := by
  obtain ⟨k, rfl⟩ : ∃ k', k = k' + 3 := ⟨k - 3, by omega⟩
  refine rows_step K j k m hm h63 h fun q hq hd => ?_
  have := Nat.le_of_dvd hm hd
  exact paper_all K j q hq (by omega) (by omega) (k + 2) h (by omega)
theorem q_factors (hl : lookD fs "factors" = some c_factors) (m : Nat) (hm : 1 ≤ m) (hm2 : m ≤ 10000000000) (k : Nat) (hk : 80 ≤ k) (h : List (List D)) : ∃ r, RowOK m 35 r ∧ Phi fs k "factors" [.int m] h = .ok (.val (.tup [.str "factors", .int m, .tup r.ds])) h := by
  obtain ⟨k, rfl⟩ : ∃ k', k = k' + 1 := ⟨k - 1, by omega⟩
  obtain ⟨r, h1, e⟩ := rows_all K 34 m hm (by omega) (by omega) k (by omega) h
  refine ⟨r, h1, ?_⟩
  rw [Phi_run hl rfl]
  have c1 : ¬ (m : Int) < 1 := by omega
  have c2 : ¬ (10000000000 : Int) < m := by omega
  simp [c_factors, startT, c1, c2, e]
end
/-! ### symbols -/
/-- what is left to do at a triple -/
def cost (b : Int) (m : Nat) : Nat := if b = 0 then 0 else if b < 0 then 300 else if b < m then 2 * (b.toNat * m).log2 + 3 else 2 * (b.toNat * m).log2 + 2
theorem log2_half {x y : Nat} (hx : 1 ≤ x) (h : 2 * x ≤ y) : x.log2 + 1 ≤ y.log2 := by
  have h1 := Nat.log2_self_le (n := x) (by omega)
  apply Classical.byContradiction
  intro z
  have h2 : y < 2 ^ (x.log2 + 1) := (Nat.log2_lt (by omega)).mp (by omega)
  rw [Nat.pow_succ] at h2
  omega
theorem cost_le {b : Int} {m : Nat} (hb : b.natAbs < 2 ^ 64) (hm : m < 2 ^ 64) (hm1 : 1 ≤ m) : cost b m ≤ 300 := by
  have key : 0 < b → (b.toNat * m).log2 < 128 := fun h => by
    refine (Nat.log2_lt (Nat.mul_ne_zero (by omega) (by omega))).mpr ?_
    have h1 : b.toNat * m < 2 ^ 64 * 2 ^ 64 := Nat.mul_lt_mul'' (by omega) hm
    rwa [← Nat.pow_add] at h1
  unfold cost
  split
  · omega
  split
  · omega
  have := key (by omega)
  split <;> omega
theorem cost_mod {b : Int} {m : Nat} (hb : b.natAbs < 2 ^ 64) (hm : m < 2 ^ 64) (hm1 : 1 ≤ m) (h : ¬ (0 ≤ b ∧ b < m)) : cost (b % m) m < cost b m := by
  have h1 := Int.emod_nonneg b (by omega : (m : Int) ≠ 0)
  have h2 := Int.emod_lt_of_pos b (by omega : (0 : Int) < m)
  by_cases z : b % m = 0
  · have : cost (b % m) m = 0 := by unfold cost; rw [if_pos z]
    rw [this]
    unfold cost
    rw [if_neg (fun w => h ⟨by omega, by omega⟩)]
    split
    · omega
    · rw [if_neg (by omega)]; omega
  · by_cases n : b < 0
    · have e2 : cost b m = 300 := by unfold cost; rw [if_neg (by omega), if_pos n]
      have e1 : cost (b % m) m ≤ 259 := by
        unfold cost
        rw [if_neg z, if_neg (by omega), if_pos h2]
        have : ((b % m).toNat * m).log2 < 128 := by
          refine (Nat.log2_lt (Nat.mul_ne_zero (by omega) (by omega))).mpr ?_
          have h1 : (b % m).toNat * m < 2 ^ 64 * 2 ^ 64 := Nat.mul_lt_mul'' (by omega) hm
          rwa [← Nat.pow_add] at h1
        omega
      omega
    · obtain ⟨B, rfl⟩ : ∃ B : Nat, b = B := ⟨b.toNat, by omega⟩
      have hBm : m ≤ B := by omega
      have e : ((B : Int) % m) = ((B % m : Nat) : Int) := by simp
      rw [e] at z h1 h2 ⊢
      unfold cost
      rw [if_neg z, if_neg (by omega), if_pos h2, if_neg (by omega), if_neg (by omega), if_neg (by omega), Int.toNat_natCast, Int.toNat_natCast]
      have hh : 2 * (B % m * m) ≤ B * m := by
        rw [← Nat.mul_assoc]
        refine Nat.mul_le_mul_right m ?_
        rcases Nat.lt_or_ge m B with w | w
        · exact half_mod hm1 w
        · have : B = m := by omega
          rw [this, Nat.mod_self]; omega
      have := log2_half (x := B % m * m) (y := B * m) (Nat.mul_pos (by omega) hm1) hh
      omega
theorem cost_half {b m : Nat} (hb : 1 ≤ b) (h : 2 * b < m) : cost (b : Nat) m < cost ((2 * b : Nat) : Int) m := by
  unfold cost
  rw [if_neg (by omega), if_neg (by omega), if_pos (by omega), if_neg (by omega), if_neg (by omega), if_pos (by omega), Int.toNat_natCast, Int.toNat_natCast]
  have := log2_half (x := b * m) (y := 2 * b * m) (Nat.mul_pos hb (by omega)) (by rw [Nat.mul_assoc]; exact Nat.le_refl _)
  omega
theorem cost_swap {b m : Nat} (hb : 1 ≤ b) (h : b < m) : cost (m : Nat) b < cost (b : Nat) m := by
  unfold cost
  rw [if_neg (by omega), if_neg (by omega), if_neg (by omega), if_neg (by omega), if_neg (by omega), if_pos (by omega), Int.toNat_natCast, Int.toNat_natCast, Nat.mul_comm m b]
  omega
def lenAtX (i : Nat) (s : S) : Nat := match ownAt s.t i with | some ds => ds.length | none => 0
def tripD (b : Int) (m : Nat) (t : Int) : D := .tup [.int b, .int m, .int t]
/-- one step of a symbol -/
theorem q_next {fs : List Def} (hl : lookD fs "next_step" = some c_next_step) (k : Nat) (b : Int) (m : Nat) (t : Int) (hm : m % 2 = 1) (hb : b.natAbs < 2 ^ 64) (hm2 : m < 2 ^ 64) (h : List (List D)) :
    ((b = 0 ∨ b = 1 ∨ m = 1) ∧ Phi fs (k + 1) "next_step" [tripD b m t] h = .ok (.val .non) h) ∨
    ∃ (b' : Int) (m' : Nat) (t' : Int), m' % 2 = 1 ∧ b'.natAbs < 2 ^ 64 ∧ m' < 2 ^ 64 ∧ t' * J b' m' = t * J b m ∧ cost b' m' < cost b m ∧ Phi fs (k + 1) "next_step" [tripD b m t] h = .ok (.val (tripD b' m' t')) h := by
  rw [Phi_run hl rfl]
  unfold tripD
  by_cases c0 : b = 0
  · subst c0; exact .inl ⟨.inl rfl, by simp [c_next_step, startT, setAll]⟩
  by_cases c1 : b = 1
  · subst c1; exact .inl ⟨.inr (.inl rfl), by simp [c_next_step, startT, setAll]⟩
  have c0' : ¬ (0 : Int) = b := fun z => c0 z.symm
  have c1' : ¬ (1 : Int) = b := fun z => c1 z.symm
  by_cases c2 : m = 1
  · subst c2; exact .inl ⟨.inr (.inr rfl), by simp [c_next_step, startT, setAll, c0', c1']⟩
  have c2' : ¬ (m : Int) = 1 := by omega
  have md := mod_ne (n := m) (by omega)
  right
  by_cases c3 : 0 ≤ b ∧ b < m
  rotate_left
  · refine ⟨b % m, m, t, hm, res_bd (by omega) hm2, hm2, by rw [J_mod], cost_mod hb hm2 (by omega) c3, ?_⟩
    have e := md b
    by_cases c4 : 0 ≤ b
    · have c5 : ¬ b < m := fun z => c3 ⟨c4, z⟩
      simp [c_next_step, startT, setAll, c0', c1', c2', c4, c5, e]
    · simp [c_next_step, startT, setAll, c0', c1', c2', c4, e]
  · obtain ⟨B, rfl⟩ : ∃ B : Nat, b = B := ⟨b.toNat, by omega⟩
    have c4 : (B : Int) < m := c3.2
    have c4' : (0 : Int) ≤ B := c3.1
    have e2 := mod2 B
    have lit : ∀ (x q r : Nat), 1 ≤ q → x % q = r → binD .mod (.int (x : Int)) (.int (q : Int)) = some (.val (.int (r : Int))) := fun x q r hq hr => by
      rw [mod_ne hq, ← hr]; simp
    rcases (by omega : B % 2 = 0 ∨ B % 2 = 1) with ev | od
    · obtain ⟨C, hC⟩ : ∃ C, B = 2 * C := ⟨B / 2, by omega⟩
      rw [ev] at e2
      have dv := div2 B
      rw [show B / 2 = C by omega] at dv
      have hJ := J_even C m hm
      have hc := cost_half (b := C) (m := m) (by omega) (by omega)
      rw [← hC] at hJ hc
      have r8 : m % 8 = 1 ∨ m % 8 = 3 ∨ m % 8 = 5 ∨ m % 8 = 7 := by omega
      rcases r8 with r | r | r | r
      · have e8 : binD .mod (.int (m : Int)) (.int 8) = some (.val (.int 1)) := lit m 8 1 (by omega) r
        rw [if_neg (by omega), Int.one_mul] at hJ
        refine ⟨(C : Nat), m, t, hm, by simp; omega, hm2, by rw [hJ], hc, ?_⟩
        simp [c_next_step, startT, setAll, c0', c1', c2', c4, e2, dv, e8]
      · have e8 : binD .mod (.int (m : Int)) (.int 8) = some (.val (.int 3)) := lit m 8 3 (by omega) r
        rw [if_pos (by omega)] at hJ
        refine ⟨(C : Nat), m, 0 - t, hm, by simp; omega, hm2, by rw [hJ]; grind, hc, ?_⟩
        simp [c_next_step, startT, setAll, c0', c1', c2', c4, e2, dv, e8]
      · have e8 : binD .mod (.int (m : Int)) (.int 8) = some (.val (.int 5)) := lit m 8 5 (by omega) r
        rw [if_pos (by omega)] at hJ
        refine ⟨(C : Nat), m, 0 - t, hm, by simp; omega, hm2, by rw [hJ]; grind, hc, ?_⟩
        simp [c_next_step, startT, setAll, c0', c1', c2', c4, e2, dv, e8]
      · have e8 : binD .mod (.int (m : Int)) (.int 8) = some (.val (.int 7)) := lit m 8 7 (by omega) r
        rw [if_neg (by omega), Int.one_mul] at hJ
        refine ⟨(C : Nat), m, t, hm, by simp; omega, hm2, by rw [hJ], hc, ?_⟩
        simp [c_next_step, startT, setAll, c0', c1', c2', c4, e2, dv, e8]
    · rw [od] at e2
      have hJ := J_swap B m hm od
      have hc := cost_swap (b := B) (m := m) (by omega) (by omega)
      have r1 : B % 4 = 1 ∨ B % 4 = 3 := by omega
      have r2 : m % 4 = 1 ∨ m % 4 = 3 := by omega
      rcases r1 with r | r
      · have e4 : binD .mod (.int (B : Int)) (.int 4) = some (.val (.int 1)) := lit B 4 1 (by omega) r
        rw [if_neg (by omega), Int.one_mul] at hJ
        refine ⟨(m : Nat), B, t, od, by simp; omega, by omega, by rw [hJ], hc, ?_⟩
        simp [c_next_step, startT, setAll, c0', c1', c2', c4, e2, e4]
      · have e4 : binD .mod (.int (B : Int)) (.int 4) = some (.val (.int 3)) := lit B 4 3 (by omega) r
        rcases r2 with r' | r'
        · have e4' : binD .mod (.int (m : Int)) (.int 4) = some (.val (.int 1)) := lit m 4 1 (by omega) r'
          rw [if_neg (by omega), Int.one_mul] at hJ
          refine ⟨(m : Nat), B, t, od, by simp; omega, by omega, by rw [hJ], hc, ?_⟩
          simp [c_next_step, startT, setAll, c0', c1', c2', c4, e2, e4, e4']
        · have e4' : binD .mod (.int (m : Int)) (.int 4) = some (.val (.int 3)) := lit m 4 3 (by omega) r'
          rw [if_pos (by omega)] at hJ
          refine ⟨(m : Nat), B, 0 - t, od, by simp; omega, by omega, by rw [hJ]; grind, hc, ?_⟩
          simp [c_next_step, startT, setAll, c0', c1', c2', c4, e2, e4, e4']
structure SymLk (fs : List Def) : Prop where
  chk : lookD fs "_checked" = some c__checked
  next : lookD fs "next_step" = some c_next_step
  told : lookD fs "_told" = some c__told
  claim : lookD fs "symbol_claim" = some c_symbol_claim
  sym : lookD fs "symbol" = some c_symbol
theorem q_symbol {fs : List Def} (K : SymLk fs) (k : Nat) (a : Int) (n : Nat) (hn : n % 2 = 1) (ha : a.natAbs < 2 ^ 64) (hn2 : n < 2 ^ 64) (h : List (List D)) :
    Phi fs (k + 3) "symbol" [.int a, .int n] h = .ok (.val (.int (J a n))) h := by
  have cl : ∃ steps : List D, Phi fs (k + 2) "symbol_claim" [.int a, .int n] h = .ok (.val (.tup [.str "symbol", .int a, .int n, .int (J a n), .tup steps])) h := by
    rw [Phi_run K.claim rfl]
    have ck : Phi fs (k + 1) "_checked" [.int n] h = .ok (.val .non) h := by
      rw [Phi_run K.chk rfl]
      have e2 := mod2 n
      rw [hn] at e2
      have c1 : ¬ (n : Int) < 1 := by omega
      simp [c__checked, startT, c1, e2]
    have last : ∀ (l : List D) (d : D), atD (l ++ [d]) (-1) = some d := fun l d => by rw [atD_last]; simp
    have c300 := cost_le ha hn2 (by omega)
    have loop := ex_loop (Φ := Phi fs (k + 1)) (c := csymbol_claim_0) (b := bsymbol_claim_0)
      (fun s => ∃ (l : List D) (b : Int) (m : Nat) (t : Int) (x : D), s = ⟨[some (.val (.int a)), some (.val (.int n)), some (.own (l ++ [tripD b m t])), some (.val x)], h⟩ ∧ m % 2 = 1 ∧ t * J b m = J a n ∧ l.length + cost b m ≤ 400 ∧
        ((x = .non ∧ (b = 0 ∨ b = 1 ∨ m = 1)) ∨ ∃ (b' : Int) (m' : Nat) (t' : Int), x = tripD b' m' t' ∧ m' % 2 = 1 ∧ b'.natAbs < 2 ^ 64 ∧ m' < 2 ^ 64 ∧ t' * J b' m' = t * J b m ∧ cost b' m' < cost b m))
      (fun s => 1000 - (lenAtX 2 s))
      (fun q => ∃ (l : List D) (b : Int) (m : Nat) (t : Int) (x : D), q = .next ⟨[some (.val (.int a)), some (.val (.int n)), some (.own (l ++ [tripD b m t])), some (.val x)], h⟩ ∧ t * J b m = J a n ∧ m % 2 = 1 ∧ (b = 0 ∨ b = 1 ∨ m = 1)) (fun s hI => by
        obtain ⟨l, b, m, t, x, rfl, h1, h2, h3, h4⟩ := hI
        rcases h4 with ⟨rfl, h5⟩ | ⟨b', m', t', rfl, h5, h6, h7, h8, h9⟩
        · exact .inl ⟨⟨[some (.val (.int a)), some (.val (.int n)), some (.own (l ++ [tripD b m t])), some (.val .non)], h⟩, by simp [csymbol_claim_0], l, b, m, t, .non, rfl, h2, h1, h5⟩
        · have nx := q_next K.next k b' m' t' h5 h6 h7 h
          have ll : l.length + 1 < line := by unfold line; omega
          have hl : (l ++ [tripD b m t]).length < line := by simpa using ll
          rcases nx with ⟨n1, n2⟩ | ⟨b2, m2, t2, n1, n2, n3, n4, n5, n6⟩
          · refine .inr ⟨⟨[some (.val (.int a)), some (.val (.int n)), some (.own (l ++ [tripD b m t])), some (.val (tripD b' m' t'))], h⟩, by simp [csymbol_claim_0, tripD], .inl ⟨⟨[some (.val (.int a)), some (.val (.int n)), some (.own ((l ++ [tripD b m t]) ++ [tripD b' m' t'])), some (.val .non)], h⟩, ?_, ⟨l ++ [tripD b m t], b', m', t', .non, rfl, h5, by rw [h8, h2], by simp; omega, .inl ⟨rfl, n1⟩⟩, ?_⟩⟩
            · simp [bsymbol_claim_0, ownAt, ll, n2]
            · simp [lenAtX, ownAt]; omega
          · refine .inr ⟨⟨[some (.val (.int a)), some (.val (.int n)), some (.own (l ++ [tripD b m t])), some (.val (tripD b' m' t'))], h⟩, by simp [csymbol_claim_0, tripD], .inl ⟨⟨[some (.val (.int a)), some (.val (.int n)), some (.own ((l ++ [tripD b m t]) ++ [tripD b' m' t'])), some (.val (tripD b2 m2 t2))], h⟩, ?_, ⟨l ++ [tripD b m t], b', m', t', _, rfl, h5, by rw [h8, h2], by simp; omega, .inr ⟨b2, m2, t2, rfl, n1, n2, n3, n4, n5⟩⟩, ?_⟩⟩
            · simp [bsymbol_claim_0, ownAt, ll, n6]
            · simp [lenAtX, ownAt]; omega)
    have nx := q_next K.next k a n 1 hn ha hn2 h
    have told : ∀ (b : Int) (m : Nat) (t : Int), m % 2 = 1 → (b = 0 ∨ b = 1 ∨ m = 1) → Phi fs (k + 1) "_told" [tripD b m t] h = .ok (.val (.int (t * J b m))) h := fun b m t hm hb => by
      rw [Phi_run K.told rfl]
      unfold tripD
      by_cases c0 : b = 0
      · subst c0
        by_cases c1 : (1 : Int) < m
        · rw [J_zero m (by omega), Int.mul_zero]
          simp [c__told, startT, setAll, c1]
        · have : m = 1 := by omega
          subst this
          rw [J_by_one, Int.mul_one]
          simp [c__told, startT, setAll]
      · have hj : J b m = 1 := by
          rcases hb with z | z | z
          · exact absurd z c0
          · subst z; exact J_one m hm
          · subst z; exact J_by_one b
        rw [hj, Int.mul_one]
        simp [c__told, startT, setAll, c0]
    have fin : ∀ x : D, ((x = .non ∧ (a = 0 ∨ a = 1 ∨ n = 1)) ∨ ∃ (b' : Int) (m' : Nat) (t' : Int), x = tripD b' m' t' ∧ m' % 2 = 1 ∧ b'.natAbs < 2 ^ 64 ∧ m' < 2 ^ 64 ∧ t' * J b' m' = 1 * J a n ∧ cost b' m' < cost a n) → Phi fs (k + 1) "next_step" [tripD a n 1] h = .ok (.val x) h →
        ∃ steps : List D, endF h.length (exs (Phi fs (k + 1)) c_symbol_claim.body ⟨startT c_symbol_claim.n [.int a, .int n], h⟩) = .ok (.val (.tup [.str "symbol", .int a, .int n, .int (J a n), .tup steps])) h := fun x hx nx => by
      obtain ⟨l, b, m, t, y, e, e2, e3, e4⟩ := loop ⟨[some (.val (.int a)), some (.val (.int n)), some (.own ([] ++ [tripD a n 1])), some (.val x)], h⟩ ⟨[], a, n, 1, x, rfl, hn, by rw [Int.one_mul], by simp; omega, hx⟩
      have tl := told b m t e3 e4
      rw [e2] at tl
      refine ⟨l ++ [tripD b m t], ?_⟩
      unfold tripD at *
      simp only [List.nil_append] at e
      simp [c_symbol_claim, startT, ck, nx, e, tl]
    rcases nx with ⟨n1, n2⟩ | ⟨b2, m2, t2, n1, n2, n3, n4, n5, n6⟩
    · exact fin .non (.inl ⟨rfl, n1⟩) n2
    · exact fin _ (.inr ⟨b2, m2, t2, rfl, n1, n2, n3, n4, n5⟩) n6
  obtain ⟨steps, e⟩ := cl
  rw [Phi_run K.sym rfl]
  simp [c_symbol, startT, e]
end PI

namespace PI
open PySem L2 NT
theorem mulL {a b : Int} (h : a.natAbs < 2 ^ 64) : binD .mul (.int a) (.int b) = some (.val (.int (a * b))) := mul64 h
theorem mulR {a b : Int} (h : b.natAbs < 2 ^ 64) : binD .mul (.int a) (.int b) = some (.val (.int (a * b))) := bin_mulI (by simp only [mulOk, Bool.or_eq_true, decide_eq_true_eq]; exact .inl (.inr h))
theorem turns_down (b : Nat) : turnsC ((b : Int) - 1) (-1) (-1) = b := by
  unfold turnsC Builtin.Range.rangeSize
  rw [if_neg (by omega)]
  split
  · have : ((b : Int) - 1 - -1 - 1) / (- -1) + 1 = b := by
      rw [show (- (-1 : Int)) = 1 from rfl, Int.ediv_one]; omega
    rw [this]; simp
  · have : b = 0 := by omega
    subst this; rfl
theorem rangeC_get2 (lo c : Int) (n i : Nat) (d : D) (h : (rangeC lo c n)[i]? = some d) : d = .int (lo + i * c) ∧ i < n := by
  unfold rangeC at h
  rw [List.getElem?_map] at h
  by_cases hi : i < n
  · rw [List.getElem?_range hi] at h
    simp at h
    exact ⟨h.symm, hi⟩
  · rw [List.getElem?_eq_none (by simpa using hi)] at h; cases h
theorem rangeC_len (lo c : Int) (n : Nat) : (rangeC lo c n).length = n := by simp [rangeC]
theorem small_down : ∀ b : Nat, b ≤ 64 → Builtin.Range.small ((b : Int) - 1) (-1) (-1) = true := by decide +kernel
structure RowLk (fs : List Def) : Prop where
  gcd : lookD fs "greatest_shared" = some c_greatest_shared
  raised : lookD fs "raised" = some c_raised
  dbl : lookD fs "_doubled" = some c__doubled
  by' : lookD fs "_by" = some c__by
  shows : lookD fs "_shows" = some c__shows
def pairD (P Q : Int) (n m : Nat) : D := .tup [.int (lu P Q n % m), .int (lu P Q (n + 1) % m)]
section
variable {fs : List Def} (K : RowLk fs) {P Q : Int} (hP : P.natAbs < 2 ^ 64) (hQ : Q.natAbs < 2 ^ 64) {m : Nat} (hm : 1 ≤ m) (hm2 : m < 2 ^ 64)
include K hP hQ hm hm2
theorem q_doubled (k j : Nat) (h : List (List D)) : Phi fs (k + 1) "_doubled" [.int P, .int Q, .int m, pairD P Q j m] h = .ok (.val (pairD P Q (2 * j) m)) h := by
  rw [Phi_run K.dbl rfl]
  have md := mod_ne hm
  obtain ⟨u, hu⟩ : ∃ u, lu P Q j % m = u := ⟨_, rfl⟩
  obtain ⟨w, hw⟩ : ∃ w, lu P Q (j + 1) % m = w := ⟨_, rfl⟩
  have bu : u.natAbs < 2 ^ 64 := hu ▸ res_bd hm hm2
  have bw : w.natAbs < 2 ^ 64 := hw ▸ res_bd hm hm2
  have m1 := mulL (a := 2) (b := w) (by decide)
  have m2 := mulL (b := u) hP
  have m3 := mulL (b := 2 * w - P * u) bu
  have m4 := mulL (b := w) bw
  have m5 := mulL (b := u) hQ
  have m6 := mulR (a := Q * u) bu
  have r1 : (u * (2 * w - P * u)) % m = lu P Q (2 * j) % m := by
    have : NeZero m := ⟨by omega⟩
    rw [(lu_double P Q j).1, ← NT.cast_eq, ← hu, ← hw]
    simp only [cI_mul, cI_sub, cI_mod]
  have r2 : (w * w - Q * u * u) % m = lu P Q (2 * j + 1) % m := by
    have : NeZero m := ⟨by omega⟩
    rw [(lu_double P Q j).2, ← NT.cast_eq, ← hu, ← hw]
    simp only [cI_mul, cI_sub, cI_mod]
  unfold pairD
  rw [hu, hw, ← r1, ← r2]
  simp [c__doubled, startT, setAll, m1, m2, m3, m4, m5, m6, md]
theorem q_by (k n : Nat) (hn : n < 2 ^ 64) (h : List (List D)) : Phi fs (k + 2) "_by" [.int P, .int Q, .int n, .int m] h = .ok (.val (pairD P Q n m)) h := by
  rw [Phi_run K.by' rfl]
  have md := mod_ne hm
  obtain ⟨b, hb, hbn, hb64⟩ : ∃ b : Nat, (if (n : Int) = 0 then (0 : Int) else ((n : Int)).natAbs.log2 + 1) = b ∧ n < 2 ^ b ∧ b ≤ 64 := by
    have e : (if (n : Int) = 0 then (0 : Int) else ((n : Int)).natAbs.log2 + 1) = bitsI n := rfl
    have h1 := bits_lt (n := (n : Int)) (by omega)
    have h2 := bits_le (n := (n : Int)) (by omega) (by simpa using hn)
    have h0 : 0 ≤ bitsI (n : Int) := by unfold bitsI; split <;> omega
    exact ⟨(bitsI (n : Int)).toNat, by rw [e]; omega, by exact_mod_cast h1, by omega⟩
  obtain ⟨s', e, x, rfl⟩ := forR_all (Φ := Phi fs (k + 1)) (t := .name 5) (b := b_by_0) (rangeC ((b : Int) - 1) (-1) b)
    (fun i s => ∃ x, s = ⟨[some (.val (.int P)), some (.val (.int Q)), some (.val (.int n)), some (.val (.int m)), some (.val (pairD P Q (n / 2 ^ (b - i)) m)), x], h⟩) (fun i d s hd hI => by
      obtain ⟨x, rfl⟩ := hI
      obtain ⟨rfl, hi⟩ := rangeC_get2 _ _ _ _ _ hd
      have hat : (b : Int) - 1 + i * (-1) = ((b - 1 - i : Nat) : Int) := by omega
      rw [hat]
      have hd := q_doubled K hP hQ hm hm2 k (n / 2 ^ (b - i)) h
      have hp2 : 2 ^ (b - 1 - i) ≤ 2 ^ 63 := Nat.pow_le_pow_right (by omega) (by omega)
      have er := q_raised K.raised k 2 (b - 1 - i) (Nat.lt_of_le_of_lt hp2 (Nat.pow_lt_pow_right (by omega) (by omega))) h
      have dv := div_q (n := n) (q := 2 ^ (b - 1 - i)) (Nat.one_le_two_pow) (by omega)
      have half : n / 2 ^ (b - i) = n / 2 ^ (b - 1 - i) / 2 := by
        rw [Nat.div_div_eq_div_mul, ← Nat.pow_succ, show (b - 1 - i).succ = b - i by omega]
      have nx : b - (i + 1) = b - 1 - i := by omega
      rw [nx]
      obtain ⟨t, ht⟩ : ∃ t, n / 2 ^ (b - 1 - i) = t := ⟨_, rfl⟩
      rw [half, ht] at hd
      rw [ht] at dv
      rw [half, ht]
      have e2 := mod2 t
      refine ⟨_, rfl, ⟨[some (.val (.int P)), some (.val (.int Q)), some (.val (.int n)), some (.val (.int m)), some (.val (pairD P Q t m)), some (.val (.int ((b - 1 - i : Nat) : Int)))], h⟩, ?_, _, rfl⟩
      have er : Phi fs (k + 1) "raised" [.int 2, .int ((b - 1 - i : Nat) : Int)] h = .ok (.val (.int ((2 ^ (b - 1 - i) : Nat) : Int))) h := er
      generalize 2 ^ (b - 1 - i) = pw at *
      generalize b - 1 - i = at' at *
      rcases (by omega : t % 2 = 0 ∨ t % 2 = 1) with z | z
      · rw [z] at e2
        have : 2 * (t / 2) = t := by omega
        rw [this] at hd
        simp [b_by_0, hd, er, dv, e2]
      · rw [z] at e2
        have e3 : 2 * (t / 2) + 1 = t := by omega
        have e4 : 2 * (t / 2) + 1 + 1 = t + 1 := by omega
        unfold pairD at hd ⊢
        rw [e3] at hd
        obtain ⟨u, hu⟩ : ∃ u, lu P Q (2 * (t / 2)) % m = u := ⟨_, rfl⟩
        obtain ⟨w, hw⟩ : ∃ w, lu P Q t % m = w := ⟨_, rfl⟩
        have bu : u.natAbs < 2 ^ 64 := hu ▸ res_bd hm hm2
        have m1 := mulL (b := w) hP
        have m2 := mulL (b := u) hQ
        have r1 : (P * w - Q * u) % m = lu P Q (t + 1) % m := by
          have : NeZero m := ⟨by omega⟩
          rw [← e4]
          have e5 : lu P Q (2 * (t / 2) + 1 + 1) = P * lu P Q (2 * (t / 2) + 1) - Q * lu P Q (2 * (t / 2)) := rfl
          rw [e5, e3, ← NT.cast_eq, ← hu, ← hw]
          simp only [cI_mul, cI_sub, cI_mod]
        rw [hw, ← r1]
        rw [hu, hw] at hd
        simp [b_by_0, hd, er, dv, e2, m1, m2, md])
    ⟨[some (.val (.int P)), some (.val (.int Q)), some (.val (.int n)), some (.val (.int m)), some (.val (.tup [.int 0, .int (1 % m)])), none], h⟩ ⟨none, by
      rw [Nat.sub_zero, Nat.div_eq_of_lt hbn]
      simp [pairD, lu]⟩
  rw [rangeC_len, Nat.sub_self, Nat.pow_zero, Nat.div_one] at e
  have td := turns_down b
  have sm : Builtin.Range.small ((b : Int) - 1) (-1) (-1) = true := small_down b hb64
  have hb : (if n = 0 then (0 : Int) else (n.log2 : Int) + 1) = b := by simpa using hb
  simp [c__by, startT, md, hb, sm, td, e]
end
/-! ### what shows a prime from above -/
def showsB (n : Nat) (P Q : Int) (qs : List Int) : Bool := (Nat.gcd n (2 * Q * (P * P - 4 * Q)).natAbs == 1) && decide (lu P Q (n + 1) % n = 0) && qs.all fun q => Nat.gcd (lu P Q ((n + 1) / q.toNat) % n).natAbs n == 1
theorem nat_eq1 (g : Nat) : decide ((g : Int) = 1) = (g == 1) := by
  by_cases z : g = 1
  · subst z; rfl
  · have : ¬ ((g : Int) = 1) := by omega
    simp [z, this]
def intF (F : Int → Bool) : D → Option D
  | .int q => some (.bl (F q))
  | _ => none
theorem int_fm (F : Int → Bool) : ∀ l : List Int, (l.map D.int).filterMap (intF F) = l.map fun q => D.bl (F q)
  | [] => rfl
  | a :: l => by rw [List.map_cons, List.filterMap_cons_some (f := intF F) (b := .bl (F a)) rfl, int_fm F l, List.map_cons]
theorem big_prod {P Q : Int} (hP : P.natAbs < 2 ^ 64) (hQ : Q.natAbs < 2 ^ 64) : binD .mul (.int (2 * Q)) (.int (P * P - 4 * Q)) = some (.val (.int (2 * Q * (P * P - 4 * Q)))) := by
  have h1 : (2 * Q).natAbs < 2 ^ (2 + 64) := big_mul (A := 2) (B := 64) (by decide) hQ
  have h2 : (P * P).natAbs < 2 ^ (64 + 64) := big_mul hP hP
  have h3 : (4 * Q).natAbs < 2 ^ (3 + 64) := big_mul (A := 3) (B := 64) (by decide) hQ
  have h4 := (big_add h2 (big_le (B := 128) (by omega) h3)).1
  exact bin_mulI (mulOk_lt (big_le (by omega) h1) (big_le (by omega) h4))
theorem q_shows {fs : List Def} (K : RowLk fs) {P Q : Int} (hP : P.natAbs < 2 ^ 64) (hQ : Q.natAbs < 2 ^ 64) (k n : Nat) (hn : 3 ≤ n) (hn2 : n < 2 ^ 63) (qs : List Int) (hq : ∀ q ∈ qs, 1 ≤ q ∧ q < 2 ^ 64) (hl : qs.length ≤ 1000) (h : List (List D)) :
    Phi fs (k + 3) "_shows" [.int n, .int P, .int Q, .lst (qs.map D.int)] h = .ok (.val (.bl (showsB n P Q qs))) h := by
  rw [Phi_run K.shows rfl]
  have hn1 : ((n + 1 : Nat) : Int) = (n : Int) + 1 := by omega
  have m1 := mulL (a := 2) (b := Q) (by decide)
  have m2 := mulL (b := P) hP
  have m3 := mulL (a := 4) (b := Q) (by decide)
  have m4 := big_prod hP hQ
  have g1 := q_gcd K.gcd (k + 1) n (2 * Q * (P * P - 4 * Q)) h
  have b1 := q_by K hP hQ (m := n) (by omega) (by omega) k (n + 1) (by omega) h
  unfold showsB
  simp only [Int.natAbs_natCast] at g1
  obtain ⟨g, hg⟩ : ∃ g, Nat.gcd n (2 * Q * (P * P - 4 * Q)).natAbs = g := ⟨_, rfl⟩
  rw [hg] at g1
  rw [hg]
  unfold pairD at b1
  rw [hn1] at b1
  by_cases c1 : g = 1
  · subst c1
    by_cases c2 : lu P Q (n + 1) % n = 0
    · rw [c2] at b1
      obtain ⟨s', ⟨y, rfl⟩, lc⟩ := lcR_I (Φ := Phi fs (k + 2)) (tg := .name 4) (cond := .none) (elt := .cmp (.call "greatest_shared" (.cons (.idx (.call "_by" (.cons (.var 1) (.cons (.var 2) (.cons (.bin .fdiv (.bin .add (.var 0) (.cst (.int 1))) (.var 4)) (.cons (.var 0) .nil))))) (.cst (.int 0))) (.cons (.var 0) .nil))) (.cons .eq (.cst (.int 1)) .nil))
        (fun s => ∃ y, s = ⟨[some (.val (.int n)), some (.val (.int P)), some (.val (.int Q)), some (.val (.lst (qs.map D.int))), y], h⟩)
        (intF fun q => Nat.gcd (lu P Q ((n + 1) / q.toNat) % n).natAbs n == 1) (qs.map D.int) ⟨[some (.val (.int n)), some (.val (.int P)), some (.val (.int Q)), some (.val (.lst (qs.map D.int))), none], h⟩
        (by rw [List.length_map]; unfold line; omega) ⟨_, rfl⟩ (fun d hd s hI => by
          obtain ⟨y, rfl⟩ := hI
          obtain ⟨q, hqm, rfl⟩ := List.mem_map.mp hd
          obtain ⟨q1, q2⟩ := hq q hqm
          obtain ⟨q, rfl⟩ := natN (a := q) (by omega)
          have dv := div_q (n := n + 1) (q := q) (by omega) (by omega)
          have b2 := q_by K hP hQ (m := n) (by omega) (by omega) k ((n + 1) / q) (Nat.lt_of_le_of_lt (Nat.div_le_self _ _) (by omega)) h
          have g2 := q_gcd K.gcd (k + 1) (lu P Q ((n + 1) / q) % n) n h
          simp only [Int.natAbs_natCast] at g2
          unfold pairD at b2
          rw [hn1] at dv
          refine ⟨⟨[some (.val (.int n)), some (.val (.int P)), some (.val (.int Q)), some (.val (.lst (qs.map D.int))), some (.val (.int (q : Int)))], h⟩, ?_, _, rfl⟩
          simp only [intF, Int.toNat_natCast]
          obtain ⟨t, ht⟩ : ∃ t, (n + 1) / q = t := ⟨_, rfl⟩
          simp only [ht] at dv b2 g2 ⊢
          obtain ⟨gg, hgg⟩ : ∃ gg, Nat.gcd (lu P Q t % n).natAbs n = gg := ⟨_, rfl⟩
          rw [hgg] at g2
          rw [hgg, ← nat_eq1]
          simp [turnL, wipeT, MT.ids, bindT, setAll, dv, b2, g2])
      rw [int_fm] at lc
      have bl := blt_all (bls_map (fun q => Nat.gcd (lu P Q ((n + 1) / q.toNat) % n).natAbs n == 1) qs)
      rw [all_map] at bl
      simp [c__shows, startT, m1, m2, m3, m4, g1, b1, c2, lc, bl, backT, MT.ids]
    · simp [c__shows, startT, m1, m2, m3, m4, g1, b1, c2]
  · have c1' : ¬ (g : Int) = 1 := by omega
    simp [c__shows, startT, m1, m2, m3, m4, g1, c1, c1']
end PI

/-! lists of ints as data -/
namespace PI
open PySem L2
theorem intsOf_map : ∀ ns : List Int, intsOf (ns.map D.int) = some ns
  | [] => rfl
  | n :: ns => by rw [List.map_cons, intsOf, intsOf_map ns]; rfl
theorem blsOf_map : ∀ ns : List Bool, blsOf (ns.map D.bl) = some ns
  | [] => rfl
  | n :: ns => by rw [List.map_cons, blsOf, blsOf_map ns]; rfl
theorem atD_ints (ns : List Int) (i : Nat) : atD (ns.map D.int) (i : Int) = (ns[i]?).map D.int := by rw [atD_nat, List.getElem?_map]
theorem dats_ints (n : Nat) : ∀ ns : List Int, dats n (ns.map D.int) = true
  | [] => by simp
  | i :: ns => by rw [List.map_cons, dats_cons, dats_ints n ns]; simp
theorem dats_bls (n : Nat) : ∀ ns : List Bool, dats n (ns.map D.bl) = true
  | [] => by simp
  | i :: ns => by rw [List.map_cons, dats_cons, dats_bls n ns]; simp
theorem isMem_ints (x : Int) : ∀ ns : List Int, isMem (.int x) (ns.map D.int) = ns.any fun m => decide (m = x)
  | [] => rfl
  | i :: ns => by rw [List.map_cons, isMem_cons, isMem_ints x ns, List.any_cons, deq_int']
theorem isMem_bls (x : Bool) : ∀ ns : List Bool, isMem (.bl x) (ns.map D.bl) = ns.any fun m => m == x
  | [] => rfl
  | i :: ns => by rw [List.map_cons, isMem_cons, isMem_bls x ns, List.any_cons, deq_bl]
theorem isMem_true (bs : List Bool) : isMem (.bl true) (bs.map D.bl) = bs.any id := by
  rw [isMem_bls]
  congr 1
  funext b
  cases b <;> rfl
theorem isMem_false (bs : List Bool) : isMem (.bl false) (bs.map D.bl) = !bs.all id := by
  rw [isMem_bls]
  induction bs with
  | nil => rfl
  | cons b l ih => rw [List.any_cons, List.all_cons, ih]; cases b <;> simp
theorem deqs_ints : ∀ a b : List Int, deqs (a.map D.int) (b.map D.int) = decide (a = b)
  | [], [] => by simp
  | [], _ :: _ => by simp
  | _ :: _, [] => by simp
  | i :: a, j :: b => by
    rw [List.map_cons, List.map_cons, deqs_cons, deqs_ints a b, deq_int']
    by_cases h1 : i = j <;> by_cases h2 : a = b <;> simp [h1, h2]
theorem cut_take (ds : List D) (n : Nat) : cutD ds none (some (n : Int)) = ds.take n := by
  unfold cutD sEnd
  dsimp only
  rw [if_neg (by omega), List.drop_zero, Nat.sub_zero, Int.toNat_natCast]
  by_cases h : n ≤ ds.length
  · rw [Nat.min_eq_left h]
  · rw [Nat.min_eq_right (by omega), List.take_of_length_le (by omega), List.take_of_length_le (by omega)]
theorem cut_drop (ds : List D) (n : Nat) : cutD ds (some (n : Int)) none = ds.drop n := by
  unfold cutD sEnd
  dsimp only
  rw [if_neg (by omega), Int.toNat_natCast]
  by_cases h : n ≤ ds.length
  · rw [Nat.min_eq_left h, List.take_of_length_le (by rw [List.length_drop]; omega)]
  · rw [Nat.min_eq_right (by omega), List.drop_length, List.drop_of_length_le (by omega)]; simp
theorem cut_mid (ds : List D) (a b : Nat) : cutD ds (some (a : Int)) (some (b : Int)) = (ds.drop a).take (b - a) := by
  unfold cutD sEnd
  dsimp only
  rw [if_neg (by omega), if_neg (by omega), Int.toNat_natCast, Int.toNat_natCast]
  by_cases h : a ≤ ds.length
  · rw [Nat.min_eq_left h]
    by_cases h2 : b ≤ ds.length
    · rw [Nat.min_eq_left h2]
    · rw [Nat.min_eq_right (show ds.length ≤ b by omega), List.take_of_length_le (by rw [List.length_drop]; omega), List.take_of_length_le (by rw [List.length_drop]; omega)]
  · rw [Nat.min_eq_right (show ds.length ≤ a by omega), List.drop_length, List.drop_of_length_le (show ds.length ≤ a by omega)]; simp
theorem cut_take1 (ds : List D) (n : Nat) : cutD ds none (some ((n : Int) + 1)) = ds.take (n + 1) := cut_take ds (n + 1)
theorem cut_drop1 (ds : List D) (n : Nat) : cutD ds (some ((n : Int) + 1)) none = ds.drop (n + 1) := cut_drop ds (n + 1)
theorem cut_mid1 (ds : List D) (a b : Nat) : cutD ds (some (a : Int)) (some ((b : Int) + 1)) = (ds.drop a).take (b + 1 - a) := cut_mid ds a (b + 1)
@[simp] theorem cut_takeL (ds : List D) (n : Nat) : cutD ds none (some (no_index (@OfNat.ofNat Int n instOfNat))) = ds.take (OfNat.ofNat n) := cut_take ds n
@[simp] theorem cut_dropL (ds : List D) (n : Nat) : cutD ds (some (no_index (@OfNat.ofNat Int n instOfNat))) none = ds.drop (OfNat.ofNat n) := cut_drop ds n
/-- a tuple of ints is plain, and the same as itself -/
theorem PL_ints (n : Nat) (ns : List Int) (h : ns.length ≤ line) : PL (n + 1) (.tup (ns.map D.int)) := by
  refine ⟨by simpa using h, fun d hd => ?_⟩
  obtain ⟨i, _, rfl⟩ := List.mem_map.mp hd
  cases n <;> exact trivial
theorem SD_ints (n : Nat) (ns : List Int) (h : ns.length ≤ line) : SD (n + 1) (.tup (ns.map D.int)) := by
  refine ⟨by simpa using h, fun d hd => ?_⟩
  obtain ⟨i, _, rfl⟩ := List.mem_map.mp hd
  cases n <;> exact trivial
theorem SD_intsL (n : Nat) (ns : List Int) (h : ns.length ≤ line) : SD (n + 1) (.lst (ns.map D.int)) := by
  refine ⟨by simpa using h, fun d hd => ?_⟩
  obtain ⟨i, _, rfl⟩ := List.mem_map.mp hd
  cases n <;> exact trivial
/-- a comprehension over ints, each turn an int or a truth -/
theorem lcR_ints {Φ : Fns} {i : Nat} {elt : ME} (f : Int → D) (ns : List Int) (t : List (Option Sl)) (h : List (List D)) (hl : ns.length ≤ line)
    (ht : ∀ n ∈ ns, ∀ x, turnL Φ (.name i) .none elt (.int n) ⟨t.set i x, h⟩ = .ok (some (f n)) ⟨t.set i (some (.val (.int n))), h⟩) :
    lcR Φ elt (.name i) .none (ns.map D.int) ⟨t, h⟩ = .ok (.own (ns.map f)) ⟨t.set i (match t[i]? with | some (some (.val d)) => some (.val d) | _ => none), h⟩ := by
  have e := lcR_fm (Φ := Φ) (i := i) (cond := .none) (elt := elt) (fun d => match d with | .int n => some (f n) | _ => none) (ns.map D.int) t h (by simpa using hl) (fun d hd x => by
    obtain ⟨n, hn, rfl⟩ := List.mem_map.mp hd
    exact ht n hn x)
  have fm : (ns.map D.int).filterMap (fun d => match d with | .int n => some (f n) | _ => none) = ns.map f := by
    clear e ht hl
    induction ns with
    | nil => rfl
    | cons a l ih => rw [List.map_cons, List.filterMap_cons]; dsimp only; rw [ih, List.map_cons]
  rw [e, fm] <;> rfl
theorem range_at (lo : Int) (n i : Nat) (h : i < n) : (rangeD lo n)[i]? = some (.int (lo + i)) := by
  unfold rangeD
  rw [List.getElem?_map, List.getElem?_range h]
  rfl
theorem getLast?_ints (ns : List Int) : (ns.map D.int).getLast? = ns.getLast?.map D.int := by
  rw [List.getLast?_map]
end PI
namespace PI
open PySem L2
/-- one of a few -/
theorem pick2 {a b : D} {u : Int} (h0 : 0 ≤ u) (h1 : u < 2) : ∃ d, atD [a, b] u = some d ∧ (d = a ∨ d = b) := by
  have : u = 0 ∨ u = 1 := by omega
  rcases this with rfl | rfl
  · exact ⟨a, by simp, .inl rfl⟩
  · exact ⟨b, by simp, .inr rfl⟩
theorem pick3 {a b c : D} {u : Int} (h0 : 0 ≤ u) (h1 : u < 3) : ∃ d, atD [a, b, c] u = some d ∧ (d = a ∨ d = b ∨ d = c) := by
  have : u = 0 ∨ u = 1 ∨ u = 2 := by omega
  rcases this with rfl | rfl | rfl
  · exact ⟨a, by simp, .inl rfl⟩
  · exact ⟨b, by simp, .inr (.inl rfl)⟩
  · exact ⟨c, by simp, .inr (.inr rfl)⟩
theorem pick4 {a b c d : D} {u : Int} (h0 : 0 ≤ u) (h1 : u < 4) : ∃ e, atD [a, b, c, d] u = some e ∧ (e = a ∨ e = b ∨ e = c ∨ e = d) := by
  have : u = 0 ∨ u = 1 ∨ u = 2 ∨ u = 3 := by omega
  rcases this with rfl | rfl | rfl | rfl
  · exact ⟨a, by simp, .inl rfl⟩
  · exact ⟨b, by simp, .inr (.inl rfl)⟩
  · exact ⟨c, by simp, .inr (.inr (.inl rfl))⟩
  · exact ⟨d, by simp, .inr (.inr (.inr rfl))⟩
theorem pick5 {a b c d e : D} {u : Int} (h0 : 0 ≤ u) (h1 : u < 5) : ∃ f, atD [a, b, c, d, e] u = some f ∧ (f = a ∨ f = b ∨ f = c ∨ f = d ∨ f = e) := by
  have : u = 0 ∨ u = 1 ∨ u = 2 ∨ u = 3 ∨ u = 4 := by omega
  rcases this with rfl | rfl | rfl | rfl | rfl
  · exact ⟨a, by simp, .inl rfl⟩
  · exact ⟨b, by simp, .inr (.inl rfl)⟩
  · exact ⟨c, by simp, .inr (.inr (.inl rfl))⟩
  · exact ⟨d, by simp, .inr (.inr (.inr (.inl rfl)))⟩
  · exact ⟨e, by simp, .inr (.inr (.inr (.inr rfl)))⟩
/-- what has the shape of a tuple of ints -/
theorem shps_ints : ∀ (ns : List Int) (es : List D), shps (ns.map D.int) es → ∃ ms : List Int, es = ms.map D.int ∧ ms.length = ns.length
  | [], [], _ => ⟨[], rfl, rfl⟩
  | [], _ :: _, h => by unfold shps at h; exact h.elim
  | _ :: _, [], h => by unfold shps at h; exact h.elim
  | n :: ns, e :: es, h => by
    rw [List.map_cons] at h
    unfold shps at h
    obtain ⟨h1, h2⟩ := h
    obtain ⟨ms, rfl, hl⟩ := shps_ints ns es h2
    cases e with
    | int i => exact ⟨i :: ms, rfl, by rw [List.length_cons, List.length_cons, hl]⟩
    | _ => unfold shp at h1; exact h1.elim
theorem shp_int {i : Int} {d : D} (h : shp (.int i) d) : ∃ j, d = .int j := by
  cases d with
  | int j => exact ⟨j, rfl⟩
  | _ => unfold shp at h; exact h.elim
theorem shp_ints {ns : List Int} {d : D} (h : shp (.tup (ns.map D.int)) d) : ∃ ms : List Int, d = .tup (ms.map D.int) ∧ ms.length = ns.length := by
  cases d with
  | tup es =>
    unfold shp at h
    obtain ⟨ms, rfl, hl⟩ := shps_ints ns es h
    exact ⟨ms, rfl, hl⟩
  | _ => unfold shp at h; exact h.elim
theorem shps_cons {a : D} {as : List D} {es : List D} (h : shps (a :: as) es) : ∃ b bs, es = b :: bs ∧ shp a b ∧ shps as bs := by
  cases es with
  | nil => unfold shps at h; exact h.elim
  | cons b bs => unfold shps at h; exact ⟨b, bs, rfl, h.1, h.2⟩
theorem shps_nil {es : List D} (h : shps [] es) : es = [] := by
  cases es with
  | nil => rfl
  | cons b bs => unfold shps at h; exact h.elim
theorem shp_tup {as : List D} {d : D} (h : shp (.tup as) d) : ∃ bs, d = .tup bs ∧ shps as bs := by
  cases d with
  | tup es => unfold shp at h; exact ⟨es, rfl, h⟩
  | _ => unfold shp at h; exact h.elim
theorem shp_str {x : Str} {d : D} (h : shp (.str x) d) : d = .str x := by
  cases d with
  | str y => unfold shp at h; rw [h]
  | _ => unfold shp at h; exact h.elim
end PI
namespace PI
open PySem L2
theorem bnds_ex {n : Nat} (ih : ∀ d, PL n d → ∃ B, bnd B n d) : ∀ ds : List D, (∀ d ∈ ds, PL n d) → ∃ B, ∀ d ∈ ds, bnd B n d
  | [], _ => ⟨0, fun d hd => by cases hd⟩
  | d :: ds, h => by
    obtain ⟨B, hB⟩ := ih d (h d List.mem_cons_self)
    obtain ⟨C, hC⟩ := bnds_ex ih ds fun x hx => h x (List.mem_cons_of_mem _ hx)
    refine ⟨B + C, fun x hx => ?_⟩
    rcases List.mem_cons.mp hx with rfl | hx
    · exact bnd_mono (by omega) n _ hB
    · exact bnd_mono (by omega) n _ (hC x hx)
theorem bnd_ex : ∀ (n : Nat) (d : D), PL n d → ∃ B, bnd B n d := by
  intro n
  induction n with
  | zero =>
    intro d hd
    cases d with
    | int i => exact ⟨i.natAbs + 1, by show i.natAbs < _; omega⟩
    | str x => exact ⟨0, trivial⟩
    | _ => exact hd.elim
  | succ n ih =>
    intro d hd
    cases d with
    | int i => exact ⟨i.natAbs + 1, by show i.natAbs < _; omega⟩
    | str x => exact ⟨0, trivial⟩
    | tup ds => exact bnds_ex ih ds hd.2
    | _ => exact hd.elim
theorem touched0 {fs : List Def} (hd : lookD fs "_law_draw" = some c_law_draw) (hl : lookD fs "_law_touched" = some c_law_touched) (n : Nat) (d : D) (h : PL n d) (k : Nat) (p : List D) (hk : n ≤ k) (hp : PoolOk p) :
    ∃ d' p', Phi fs (k + 2) "_law_touched" [.ref 0, d] [p] = .ok (.val d') [p'] ∧ PoolOk p' ∧ shp d d' ∧ PL n d' := by
  obtain ⟨B, hB⟩ := bnd_ex n d h
  obtain ⟨d', p', e, hp', hs, hP, _⟩ := touched1 hd hl n d h hB k p hk hp
  exact ⟨d', p', e, hp', hs, hP⟩
theorem sd_number : smallD (.str "number") = true := smallD_str _ (by decide)
theorem sd_length : smallD (.str "length") = true := smallD_str _ (by decide)
theorem sd_last : smallD (.str "last") = true := smallD_str _ (by decide)
theorem sd_open : smallD (.str "open") = true := smallD_str _ (by decide)
theorem sd_form : smallD (.str "form") = true := smallD_str _ (by decide)
end PI

namespace K48
open PySem PySem.Spec PyProof.Rows L2 PI
def top (i : Nat) : Stmt := PySem.Challenge.pw_wholeproof_k48_whole_chains_of_sums.main.body.getD i (.Pass ⟨0, 0, 0, 0⟩)
def f_raised : TxtDef := ⟨"raised", [("base" : Str), ("exponent" : Str), ("result" : Str)], 2, top 5, 
  c_raised.body, "raised"⟩
def bdouble_chain_0 : MSs := (.cons (.set (.name 3) (.bin .fdiv (.var 0) (.call "raised" (.cons (.cst (.int 2)) (.cons (.var 2) .nil)))))
  (.cons (.ite (.cmp (.bin .mod (.var 3) (.cst (.int 2))) (.cons .eq (.cst (.int 1)) .nil)) (.cons (.app (.var 1) (.bin .sub (.var 3) (.cst (.int 1))))
  .nil) .nil)
  (.cons (.app (.var 1) (.var 3))
  .nil)))
def f_double_chain : TxtDef := ⟨"double_chain", [("n" : Str), ("chain" : Str), ("at" : Str), ("here" : Str)], 1, top 8, 
  (.cons (.ite (.cmp (.var 0) (.cons .lt (.cst (.int 1)) .nil)) (.cons (.raise "BadNumber" 0 (.cst (.str "number")))
  .nil) .nil)
  (.cons (.set (.name 1) (.lst (.cons (.cst (.int 1)) .nil)))
  (.cons (.for (.name 2) (.rng3 (.bin .sub (.blt .bits (.cons (.var 0) .nil)) (.cst (.int 2))) (.neg (.cst (.int 1))) (.neg (.cst (.int 1)))) bdouble_chain_0)
  (.cons (.ret (.tup (.cons (.cst (.str "adding")) (.cons (.var 0) (.cons (.blt .tuple (.cons (.var 1) .nil)) .nil)))))
  .nil)))), "double_chain"⟩
def b_found_0 : MSs := (.cons (.ite (.cmp (.bin .add (.idx (.var 0) (.neg (.cst (.int 1)))) (.var 3)) (.cons .gt (.var 1) .nil)) (.cons .cnt
  .nil) .nil)
  (.cons (.set (.name 4) (.call "_found" (.cons (.bin .add (.var 0) (.tup (.cons (.bin .add (.idx (.var 0) (.neg (.cst (.int 1)))) (.var 3)) .nil))) (.cons (.var 1) (.cons (.var 2) .nil)))))
  (.cons (.ite (.cmp (.var 4) (.cons .isnot (.cst .non) .nil)) (.cons (.ret (.var 4))
  .nil) .nil)
  .nil)))
def f__found : TxtDef := ⟨"_found", [("chain" : Str), ("n" : Str), ("most" : Str), ("other" : Str), ("found" : Str)], 3, top 9, 
  (.cons (.ite (.cmp (.idx (.var 0) (.neg (.cst (.int 1)))) (.cons .eq (.var 1) .nil)) (.cons (.ret (.var 0))
  .nil) .nil)
  (.cons (.ite (.bop false (.cons (.cmp (.blt .len (.cons (.var 0) .nil)) (.cons .eq (.var 2) .nil)) (.cons (.cmp (.bin .mul (.idx (.var 0) (.neg (.cst (.int 1)))) (.call "raised" (.cons (.cst (.int 2)) (.cons (.bin .sub (.var 2) (.blt .len (.cons (.var 0) .nil))) .nil)))) (.cons .lt (.var 1) .nil)) .nil))) (.cons (.ret (.cst .non))
  .nil) .nil)
  (.cons (.for (.name 3) (.revd (.var 0)) b_found_0)
  (.cons (.ret (.cst .non))
  .nil)))), "_found"⟩
def bshort_chain_0 : MSs := (.cons (.set (.name 2) (.call "_found" (.cons (.tup (.cons (.cst (.int 1)) .nil)) (.cons (.var 0) (.cons (.var 1) .nil)))))
  (.cons (.aug 1 .add (.cst (.int 1)))
  .nil))
def cshort_chain_0 : ME := (.cmp (.var 2) (.cons .is (.cst .non) .nil))
def f_short_chain : TxtDef := ⟨"short_chain", [("n" : Str), ("most" : Str), ("found" : Str)], 1, top 10, 
  (.cons (.ite (.cmp (.var 0) (.cons .lt (.cst (.int 1)) .nil)) (.cons (.raise "BadNumber" 0 (.cst (.str "number")))
  .nil) .nil)
  (.cons (.ite (.cmp (.var 0) (.cons .gt (.glb "MOST_SHORT" 100) .nil)) (.cons (.raise "TooLarge" 1 (.cst (.str "number")))
  .nil) .nil)
  (.cons (.set (.name 1) (.blt .bits (.cons (.var 0) .nil)))
  (.cons (.set (.name 2) (.cst .non))
  (.cons (.while cshort_chain_0 bshort_chain_0)
  (.cons (.ret (.tup (.cons (.cst (.str "adding")) (.cons (.var 0) (.cons (.var 2) .nil)))))
  .nil)))))), "short_chain"⟩
def badding_right_0 : MSs := (.cons (.set (.name 5) (.slc (.var 4) .none (.some (.var 1))))
  (.cons (.ite (.bop false (.cons (.cmp (.idx (.var 4) (.var 1)) (.cons .le (.idx (.var 4) (.bin .sub (.var 1) (.cst (.int 1)))) .nil)) (.cons (.not (.blt .any (.cons (.lc (.cmp (.bin .sub (.idx (.var 4) (.var 1)) (.var 6)) (.cons .isin (.var 5) .nil)) (.name 6) (.seq (.var 5)) .none) .nil))) .nil))) (.cons (.ret (.cst (.bl false)))
  .nil) .nil)
  .nil))
def f_adding_right : TxtDef := ⟨"adding_right", [("claim" : Str), ("at" : Str), ("_" : Str), ("n" : Str), ("chain" : Str), ("before" : Str), ("number" : Str)], 1, top 11, 
  (.cons (.set (.tup [2, 3, 4]) (.var 0))
  (.cons (.ite (.bop false (.cons (.cmp (.blt .len (.cons (.var 4) .nil)) (.cons .eq (.cst (.int 0)) .nil)) (.cons (.cmp (.idx (.var 4) (.cst (.int 0))) (.cons .ne (.cst (.int 1)) .nil)) (.cons (.cmp (.idx (.var 4) (.neg (.cst (.int 1)))) (.cons .ne (.var 3) .nil)) .nil)))) (.cons (.ret (.cst (.bl false)))
  .nil) .nil)
  (.cons (.for (.name 1) (.rng2 (.cst (.int 1)) (.blt .len (.cons (.var 4) .nil))) badding_right_0)
  (.cons (.ret (.cst (.bl true)))
  .nil)))), "adding_right"⟩
def f__law_draw : TxtDef := ⟨"_law_draw", [("pool" : Str), ("size" : Str), ("cell" : Str), ("value" : Str)], 2, top 14, 
  c_law_draw.body, "_law_draw"⟩
def f__law_same : TxtDef := ⟨"_law_same", [("actual" : Str), ("due" : Str), ("k" : Str)], 2, top 15, 
  c_law_same.body, "_law_same"⟩
def f__law_some : TxtDef := ⟨"_law_some", [("pool" : Str), ("way" : Str)], 1, top 16, 
  c_law_some.body, "_law_some"⟩
def f__law_sign : TxtDef := ⟨"_law_sign", [("pool" : Str), ("n" : Str)], 2, top 17, 
  c_law_sign.body, "_law_sign"⟩
def f__law_huge : TxtDef := ⟨"_law_huge", [("pool" : Str)], 1, top 18, 
  c_law_huge.body, "_law_huge"⟩
def f__law_touched : TxtDef := ⟨"_law_touched", [("pool" : Str), ("part" : Str), ("at" : Str)], 2, top 19, 
  c_law_touched.body, "_law_touched"⟩
def f__law_plain : TxtDef := ⟨"_law_plain", [("part" : Str), ("own" : Str)], 1, top 20, 
  c_law_plain.body, "_law_plain"⟩
def b_law_right_0 : MSs := (.cons (.ite (.bop false (.cons (.cmp (.idx (.var 3) (.var 1)) (.cons .le (.idx (.var 3) (.bin .sub (.var 1) (.cst (.int 1)))) .nil)) (.cons (.cmp (.cst (.bl true)) (.cons .notin (.lc (.cmp (.bin .sub (.idx (.var 3) (.var 1)) (.var 4)) (.cons .isin (.slc (.var 3) .none (.some (.var 1))) .nil)) (.name 4) (.seq (.slc (.var 3) .none (.some (.var 1)))) .none) .nil)) .nil))) (.cons (.ret (.cst (.bl false)))
  .nil) .nil)
  .nil)
def f__law_right : TxtDef := ⟨"_law_right", [("claim" : Str), ("at" : Str), ("n" : Str), ("chain" : Str), ("number" : Str)], 1, top 21, 
  (.cons (.set (.tup [2, 3]) (.slc (.var 0) (.some (.cst (.int 1))) .none))
  (.cons (.ite (.bop false (.cons (.cmp (.blt .len (.cons (.var 3) .nil)) (.cons .eq (.cst (.int 0)) .nil)) (.cons (.cmp (.idx (.var 3) (.cst (.int 0))) (.cons .ne (.cst (.int 1)) .nil)) (.cons (.cmp (.idx (.var 3) (.neg (.cst (.int 1)))) (.cons .ne (.var 2) .nil)) .nil)))) (.cons (.ret (.cst (.bl false)))
  .nil) .nil)
  (.cons (.for (.name 1) (.rng2 (.cst (.int 1)) (.blt .len (.cons (.var 3) .nil))) b_law_right_0)
  (.cons (.ret (.cst (.bl true)))
  .nil)))), "_law_right"⟩
def b_law_double_0 : MSs := (.cons (.set (.name 3) (.bin .mul (.cst (.int 2)) (.var 3)))
  (.cons (.app (.var 4) (.var 3))
  (.cons (.ite (.cmp (.var 5) (.cons .eq (.cst (.int 1)) .nil)) (.cons (.set (.name 3) (.bin .add (.var 3) (.cst (.int 1))))
  (.cons (.app (.var 4) (.var 3))
  .nil)) .nil)
  .nil)))
def b_law_double_1 : MSs := (.cons (.ite (.cmp (.var 0) (.cons .gt (.cst (.int 0)) .nil)) (.cons (.app (.var 1) (.bin .mod (.blt .int (.cons (.var 0) .nil)) (.cst (.int 2))))
  (.cons (.set (.name 0) (.bin .fdiv (.var 0) (.cst (.int 2))))
  .nil)) .nil)
  .nil)
def f__law_double : TxtDef := ⟨"_law_double", [("n" : Str), ("figures" : Str), ("turn" : Str), ("here" : Str), ("found" : Str), ("figure" : Str)], 1, top 22, 
  (.cons (.set (.name 1) (.lst .nil))
  (.cons (.for (.name 2) (.rng1 (.cst (.int 200))) b_law_double_1)
  (.cons (.set (.name 3) (.cst (.int 1)))
  (.cons (.set (.name 4) (.lst (.cons (.cst (.int 1)) .nil)))
  (.cons (.for (.name 5) (.seq (.slc (.rev (.var 1)) (.some (.cst (.int 1))) .none)) b_law_double_0)
  (.cons (.ret (.blt .tuple (.cons (.var 4) .nil)))
  .nil)))))), "_law_double"⟩
def b_law_lengths_2 : MSs := (.cons (.ite (.cmp (.var 7) (.cons .le (.var 1) .nil)) (.cons (.app (.var 5) (.bin .add (.var 6) (.tup (.cons (.var 7) .nil))))
  (.cons (.ite (.din true (.var 7) (.var 2)) (.cons (.seti (.var 2) (.var 7) (.var 4))
  .nil) .nil)
  .nil)) .nil)
  .nil)
def b_law_lengths_1 : MSs := (.cons (.for (.name 7) (.seq (.sset (.lc (.bin .add (.idx (.var 6) (.neg (.cst (.int 1)))) (.var 8)) (.name 8) (.seq (.var 6)) .none))) b_law_lengths_2)
  .nil)
def b_law_lengths_0 : MSs := (.cons (.set (.name 5) (.lst .nil))
  (.cons (.for (.name 6) (.seq (.var 3)) b_law_lengths_1)
  (.cons (.set (.name 3) (.var 5))
  .nil)))
def f__law_lengths : TxtDef := ⟨"_law_lengths", [("most" : Str), ("n" : Str), ("found" : Str), ("chains" : Str), ("length" : Str), ("longer" : Str), ("chain" : Str), ("number" : Str), ("other" : Str)], 2, top 23, 
  (.cons (.set (.name 2) (.dct1 (.inl 1) (.int 1)))
  (.cons (.set (.name 3) (.lst (.cons (.tup (.cons (.cst (.int 1)) .nil)) .nil)))
  (.cons (.for (.name 4) (.rng2 (.cst (.int 2)) (.bin .add (.var 0) (.cst (.int 1)))) b_law_lengths_0)
  (.cons (.ret (.var 2))
  .nil)))), "_law_lengths"⟩
def f__law_told : TxtDef := ⟨"_law_told", [("way" : Str), ("n" : Str), ("e" : Str)], 2, top 24, 
  (.cons (.try (.cons (.ite (.cmp (.var 0) (.cons .eq (.cst (.int 0)) .nil)) (.cons (.ret (.call "double_chain" (.cons (.var 1) .nil)))
  .nil) .nil)
  (.cons (.ret (.call "short_chain" (.cons (.var 1) .nil)))
  .nil)) (.cons "BadNumber" [0] [1] 2 (.cons (.ret (.tup (.cons (.cst (.int 1)) (.cons (.fld 2) .nil))))
  .nil) (.cons "TooLarge" [1] [0] 2 (.cons (.ret (.tup (.cons (.cst (.int 2)) (.cons (.fld 2) .nil))))
  .nil) .nil)))
  .nil), "_law_told"⟩
def f__law_spoilt : TxtDef := ⟨"_law_spoilt", [("pool" : Str), ("claim" : Str), ("chain" : Str), ("at" : Str), ("way" : Str), ("rows" : Str)], 2, top 25, 
  (.cons (.set (.name 2) (.idx (.var 1) (.cst (.int 2))))
  (.cons (.set (.name 3) (.call "_law_draw" (.cons (.var 0) (.cons (.bin .add (.blt .len (.cons (.var 2) .nil)) (.cst (.int 1))) .nil))))
  (.cons (.set (.name 4) (.call "_law_draw" (.cons (.var 0) (.cons (.cst (.int 5)) .nil))))
  (.cons (.set (.name 5) (.tup (.cons (.bin .add (.slc (.var 2) .none (.some (.var 3))) (.slc (.var 2) (.some (.bin .add (.var 3) (.cst (.int 1)))) .none)) (.cons (.bin .add (.bin .add (.slc (.var 2) .none (.some (.var 3))) (.slc (.var 2) (.some (.var 3)) (.some (.bin .add (.var 3) (.cst (.int 1)))))) (.slc (.var 2) (.some (.var 3)) .none)) (.cons (.rev (.var 2)) (.cons (.bin .add (.var 2) (.tup (.cons (.bin .mul (.cst (.int 2)) (.blt .max1 (.cons (.bin .add (.tup (.cons (.cst (.int 0)) .nil)) (.var 2)) .nil))) .nil))) .nil))))))
  (.cons (.ite (.cmp (.var 4) (.cons .lt (.cst (.int 4)) .nil)) (.cons (.ret (.bin .add (.slc (.var 1) .none (.some (.cst (.int 2)))) (.tup (.cons (.idx (.var 5) (.var 4)) .nil))))
  .nil) .nil)
  (.cons (.ret (.bin .add (.slc (.var 1) .none (.some (.cst (.int 1)))) (.call "_law_touched" (.cons (.var 0) (.cons (.slc (.var 1) (.some (.cst (.int 1))) .none) .nil)))))
  .nil)))))), "_law_spoilt"⟩
def blaw_3_0 : MSs := (.cons (.set (.name 10) (.call "_law_spoilt" (.cons (.var 1) (.cons (.var 10) .nil))))
  .nil)
def blaw_2_2 : MSs := (.cons (.ite (.not (.call "_law_same" (.cons (.call "adding_right" (.cons (.var 10) .nil)) (.cons (.call "_law_right" (.cons (.var 10) .nil)) .nil)))) (.cons (.ret (.cst (.bl false)))
  .nil) .nil)
  .nil)
def blaw_2_1 : MSs := (.cons (.for (.name 11) (.rng1 (.idx (.tup (.cons (.cst (.int 0)) (.cons (.cst (.int 1)) (.cons (.cst (.int 1)) (.cons (.cst (.int 2)) .nil))))) (.var 9))) blaw_3_0)
  blaw_2_2)
def blaw_2_0 : MSs := (.cons (.set (.name 10) (.var 8))
  blaw_2_1)
def blaw_1_0 : MSs := (.cons (.for (.name 9) (.rng1 (.cst (.int 4))) blaw_2_0)
  .nil)
def blaw_0_6 : MSs := (.cons (.for (.name 8) (.seq (.tup (.cons (.var 7) (.cons (.tup (.cons (.cst (.str "adding")) (.cons (.var 5) (.cons (.call "_law_double" (.cons (.var 5) .nil)) .nil)))) .nil)))) blaw_1_0)
  .nil)
def blaw_0_5 : MSs := (.cons (.ite (.bop false (.cons (.cmp (.blt .len (.cons (.idx (.var 7) (.cst (.int 2))) .nil)) (.cons .gt (.blt .len (.cons (.call "_law_double" (.cons (.var 6) .nil)) .nil)) .nil)) (.cons (.bop true (.cons (.cmp (.var 6) (.cons .le (.cst (.int 40)) .nil)) (.cons (.cmp (.blt .len (.cons (.idx (.var 7) (.cst (.int 2))) .nil)) (.cons .ne (.dgt (.var 2) (.var 6) (.cst (.int 8))) .nil)) .nil))) .nil))) (.cons (.ret (.cst (.bl false)))
  .nil) .nil)
  blaw_0_6)
def blaw_0_4 : MSs := (.cons (.ite (.bop false (.cons (.not (.isi (.var 7) .tup)) (.cons (.not (.call "_law_plain" (.cons (.var 7) .nil))) (.cons (.cmp (.slc (.var 7) .none (.some (.cst (.int 2)))) (.cons .ne (.tup (.cons (.cst (.str "adding")) (.cons (.var 6) .nil))) .nil)) (.cons (.not (.call "_law_right" (.cons (.var 7) .nil))) .nil))))) (.cons (.ret (.cst (.bl false)))
  .nil) .nil)
  blaw_0_5)
def blaw_0_3 : MSs := (.cons (.set (.name 7) (.call "short_chain" (.cons (.var 6) .nil)))
  blaw_0_4)
def blaw_0_2 : MSs := (.cons (.set (.name 6) (.bin .add (.cst (.int 1)) (.call "_law_draw" (.cons (.var 1) (.cons (.idx (.tup (.cons (.cst (.int 40)) (.cons (.cst (.int 40)) (.cons (.cst (.int 40)) (.cons (.cst (.int 100)) .nil))))) (.call "_law_draw" (.cons (.var 1) (.cons (.cst (.int 4)) .nil)))) .nil)))))
  blaw_0_3)
def blaw_0_1 : MSs := (.cons (.ite (.not (.call "_law_same" (.cons (.call "double_chain" (.cons (.var 5) .nil)) (.cons (.tup (.cons (.cst (.str "adding")) (.cons (.var 5) (.cons (.call "_law_double" (.cons (.var 5) .nil)) .nil)))) .nil)))) (.cons (.ret (.cst (.bl false)))
  .nil) .nil)
  blaw_0_2)
def blaw_0_0 : MSs := (.cons (.set (.name 5) (.bin .add (.cst (.int 1)) (.idx (.tup (.cons (.call "_law_draw" (.cons (.var 1) (.cons (.cst (.int 40)) .nil))) (.cons (.call "_law_some" (.cons (.var 1) .nil)) (.cons (.blt .abs (.cons (.call "_law_huge" (.cons (.var 1) .nil)) .nil)) .nil)))) (.call "_law_draw" (.cons (.var 1) (.cons (.cst (.int 3)) .nil))))))
  blaw_0_1)
def t_law_3 : MSs := (.cons (.ret (.call "_law_same" (.cons (.lst (.cons (.call "_law_told" (.cons (.var 4) (.cons (.cst (.int 0)) .nil))) (.cons (.call "_law_told" (.cons (.var 4) (.cons (.bin .sub (.cst (.int 0)) (.var 5)) .nil))) (.cons (.call "_law_told" (.cons (.cst (.int 1)) (.cons (.bin .add (.cst (.int 100)) (.var 5)) .nil))) .nil)))) (.cons (.lst (.cons (.tup (.cons (.cst (.int 1)) (.cons (.cst (.str "number")) .nil))) (.cons (.tup (.cons (.cst (.int 1)) (.cons (.cst (.str "number")) .nil))) (.cons (.tup (.cons (.cst (.int 2)) (.cons (.cst (.str "number")) .nil))) .nil)))) .nil))))
  .nil)
def t_law_2 : MSs := (.cons (.set (.name 4) (.call "_law_draw" (.cons (.var 1) (.cons (.cst (.int 2)) .nil))))
  t_law_3)
def t_law_1 : MSs := (.cons (.for (.name 3) (.rng1 (.cst (.int 4))) blaw_0_0)
  t_law_2)
def t_law_0 : MSs := (.cons (.set (.name 2) (.call "_law_lengths" (.cons (.cst (.int 7)) (.cons (.cst (.int 40)) .nil))))
  t_law_1)
def f_law : TxtDef := ⟨"law", [("script" : Str), ("pool" : Str), ("lengths" : Str), ("turn" : Str), ("way" : Str), ("n" : Str), ("small" : Str), ("found" : Str), ("claim" : Str), ("again" : Str), ("own" : Str), ("more" : Str)], 1, top 26, 
  t_law_0, "law"⟩
def ts : List TxtDef := [f_raised, f_double_chain, f__found, f_short_chain, f_adding_right, f__law_draw, f__law_same, f__law_some, f__law_sign, f__law_huge, f__law_touched, f__law_plain, f__law_right, f__law_double, f__law_lengths, f__law_told, f__law_spoilt]
def T : Tab := { fns := [(("raised" : Str), 2), (("double_chain" : Str), 1), (("_found" : Str), 3), (("short_chain" : Str), 1), (("adding_right" : Str), 1), (("_law_draw" : Str), 2), (("_law_same" : Str), 2), (("_law_some" : Str), 1), (("_law_sign" : Str), 2), (("_law_huge" : Str), 1), (("_law_touched" : Str), 2), (("_law_plain" : Str), 1), (("_law_right" : Str), 1), (("_law_double" : Str), 1), (("_law_lengths" : Str), 2), (("_law_told" : Str), 2), (("_law_spoilt" : Str), 2)], glb := [(("MOST_SHORT" : Str), 100)], exc := [(("BadNumber" : Str), 0), (("TooLarge" : Str), 1)], hnd := [(("BadNumber" : Str), [0], [1]), (("TooLarge" : Str), [1], [0])], fld := fun _ => "what" }
end K48

namespace K48
open PySem PI
abbrev fs : List Def := ts.map TxtDef.def
theorem lk_raised : lookD fs "raised" = some c_raised := by rfl
theorem lk_double_chain : lookD fs "double_chain" = some f_double_chain.def := by rfl
theorem lk__found : lookD fs "_found" = some f__found.def := by rfl
theorem lk_short_chain : lookD fs "short_chain" = some f_short_chain.def := by rfl
theorem lk_adding_right : lookD fs "adding_right" = some f_adding_right.def := by rfl
theorem lk__law_draw : lookD fs "_law_draw" = some c_law_draw := by rfl
theorem lk__law_same : lookD fs "_law_same" = some c_law_same := by rfl
theorem lk__law_some : lookD fs "_law_some" = some c_law_some := by rfl
theorem lk__law_sign : lookD fs "_law_sign" = some c_law_sign := by rfl
theorem lk__law_huge : lookD fs "_law_huge" = some c_law_huge := by rfl
theorem lk__law_touched : lookD fs "_law_touched" = some c_law_touched := by rfl
theorem lk__law_plain : lookD fs "_law_plain" = some c_law_plain := by rfl
theorem lk__law_right : lookD fs "_law_right" = some f__law_right.def := by rfl
theorem lk__law_double : lookD fs "_law_double" = some f__law_double.def := by rfl
theorem lk__law_lengths : lookD fs "_law_lengths" = some f__law_lengths.def := by rfl
theorem lk__law_told : lookD fs "_law_told" = some f__law_told.def := by rfl
theorem lk__law_spoilt : lookD fs "_law_spoilt" = some f__law_spoilt.def := by rfl
end K48

namespace K48
open PySem PI
/-- a place of a chain is the sum of two ahead of it -/
def okAt (ch : List Int) (i : Nat) : Bool := !decide (ch.getD i 0 ≤ ch.getD (i - 1) 0) && (ch.take i).any fun m => (ch.take i).any fun x => decide (x = ch.getD i 0 - m)
def rightB (n : Int) (ch : List Int) : Bool := match ch with
  | [] => false
  | a :: _ => decide (a = 1) && decide (ch.getLast? = some n) && (List.range (ch.length - 1)).all fun i => okAt ch (i + 1)
def claimD (x : Str) (n : Int) (ch : List Int) : D := .tup [.str x, .int n, .tup (ch.map D.int)]
theorem at_int (ch : List Int) (i : Nat) (h : i < ch.length) : atD (ch.map D.int) (i : Int) = some (.int (ch.getD i 0)) := by
  rw [atD_ints, List.getD_eq_getElem?_getD, List.getElem?_eq_getElem h]; rfl
theorem at_int1 (ch : List Int) (i : Nat) (h : i + 1 < ch.length) : atD (ch.map D.int) ((i : Int) + 1) = some (.int (ch.getD (i + 1) 0)) := at_int ch (i + 1) h
theorem p_adding_right (x : Str) (n : Int) (ch : List Int) (hl : ch.length ≤ line) (k : Nat) (h : List (List D)) :
    Phi fs (k + 1) "adding_right" [claimD x n ch] h = .ok (.val (.bl (rightB n ch))) h := by
  rw [Phi_run lk_adding_right rfl]
  unfold claimD
  cases ch with
  | nil => simp [f_adding_right, TxtDef.def, startT, setAll, rightB]
  | cons a r =>
    obtain ⟨ch, hch⟩ : ∃ ch, ch = a :: r := ⟨_, rfl⟩
    have hlen : ch.length = r.length + 1 := by rw [hch]; rfl
    rw [← hch] at hl
    have hsm : smallI ((r.length : Int) + 1) = true := by have := small_len (n := r.length + 1) (by omega); simpa using this
    obtain ⟨l, hlast⟩ : ∃ l, ch.getLast? = some l := by
      rw [hch]; exact ⟨_, List.getLast?_eq_some_getLast (by simp)⟩
    have hlast' : (ch.map D.int).getLast? = some (.int l) := by rw [getLast?_ints, hlast]; rfl
    have ch0 : (ch.map D.int)[0]? = some (.int a) := by rw [hch]; rfl
    have clen : (ch.map D.int).length = r.length + 1 := by simp [hlen]
    have rb : rightB n (a :: r) = (decide (a = 1) && decide (l = n) && (List.range r.length).all fun i => okAt ch (i + 1)) := by
      have e : rightB n (a :: r) = (decide (a = 1) && decide ((a :: r).getLast? = some n) && (List.range ((a :: r).length - 1)).all fun i => okAt (a :: r) (i + 1)) := rfl
      rw [e, ← hch, hlast, hlen]
      simp
    have cz : ¬ ((r.length : Int) + 1 = 0) := by omega
    have cr : ((r.length : Int) + 1 - 1).toNat = r.length := by omega
    have cd : (a :: r).map D.int = ch.map D.int := by rw [hch]
    rw [rb, cd]
    clear rb cd
    by_cases c1 : a = 1
    · by_cases c2 : l = n
      · subst c2
        have loop := forR_loop (Φ := Phi fs k) (t := .name 1) (b := badding_right_0) (rangeD 1 r.length)
          (fun i s => (∀ j, j < i → okAt ch (j + 1) = true) ∧ ∃ y1 y5, s = ⟨[some (.val (.tup [.str x, .int l, .tup (ch.map D.int)])), y1, some (.val (.str x)), some (.val (.int l)), some (.val (.tup (ch.map D.int))), y5, none], h⟩)
          (fun r' => (∃ s, r' = .next s ∧ s.h = h ∧ ((List.range r.length).all fun i => okAt ch (i + 1)) = true) ∨ (∃ t, r' = .ret (.val (.bl false)) ⟨t, h⟩ ∧ ((List.range r.length).all fun i => okAt ch (i + 1)) = false))
          (fun i d s e hI => by
            obtain ⟨hall, y1, y5, rfl⟩ := hI
            obtain ⟨rfl, hi⟩ := range_get _ _ _ _ e
            refine ⟨_, rfl, ?_⟩
            obtain ⟨ci, hci⟩ : ∃ ci : Int, ci = ((i + 1 : Nat) : Int) := ⟨_, rfl⟩
            obtain ⟨bf, hbf⟩ : ∃ bf, bf = ch.take (i + 1) := ⟨_, rfl⟩
            have e1 : (1 : Int) + (i : Int) = ci := by omega
            rw [e1]
            have a1 : atD (ch.map D.int) ci = some (.int (ch.getD (i + 1) 0)) := by rw [hci]; exact at_int ch (i + 1) (by omega)
            have a0 : atD (ch.map D.int) (ci - 1) = some (.int (ch.getD i 0)) := by
              rw [show (ci - 1) = (i : Int) by omega]; exact at_int ch i (by omega)
            have tk : cutD (ch.map D.int) none (some ci) = bf.map D.int := by rw [hci, cut_take, hbf, List.map_take]
            have oka : okAt ch (i + 1) = (!decide (ch.getD (i + 1) 0 ≤ ch.getD i 0) && (bf.map fun m => bf.any fun x => decide (x = ch.getD (i + 1) 0 - m)).any id) := by
              unfold okAt
              rw [Nat.add_sub_cancel, List.any_map, ← hbf]
              rfl
            have bl : bf.length ≤ line := by rw [hbf, List.length_take]; omega
            clear hci hbf
            generalize ch.getD (i + 1) 0 = u at *
            generalize ch.getD i 0 = v at *
            have lc := lcR_ints (Φ := Phi fs k) (i := 6) (elt := .cmp (.bin .sub (.idx (.var 4) (.var 1)) (.var 6)) (.cons .isin (.var 5) .nil)) (fun m => .bl (bf.any fun x => decide (x = u - m))) bf
              [some (.val (.tup [.str x, .int l, .tup (ch.map D.int)])), some (.val (.int ci)), some (.val (.str x)), some (.val (.int l)), some (.val (.tup (ch.map D.int))), some (.val (.tup (bf.map D.int))), none] h bl (fun m hm z => by
                simp [turnL, wipeT, MT.ids, bindT, a1, dats_ints, isMem_ints])
            have bm : ∀ (g : Int → Bool) (l : List Int), l.map (fun m => D.bl (g m)) = (l.map g).map D.bl := fun g l => by rw [List.map_map]; rfl
            rw [bm] at lc
            have an := blt_any (blsOf_map (bf.map fun m => bf.any fun x => decide (x = u - m)))
            generalize (bf.map fun m => bf.any fun x => decide (x = u - m)) = bs at *
            by_cases d1 : u ≤ v
            · right; right; right
              exact ⟨_, _, by simp [badding_right_0, a1, a0, tk, d1] <;> rfl, .inr ⟨_, rfl, by rw [List.all_eq_false]; exact ⟨i, by simpa using hi, by rw [oka]; simp [d1]⟩⟩⟩
            · cases d2 : bs.any id with
              | true =>
                rw [d2] at an
                left
                refine ⟨⟨[some (.val (.tup [.str x, .int l, .tup (ch.map D.int)])), some (.val (.int ci)), some (.val (.str x)), some (.val (.int l)), some (.val (.tup (ch.map D.int))), some (.val (.tup (bf.map D.int))), none], h⟩, by simp [badding_right_0, a1, a0, tk, d1, lc, an], ?_, _, _, rfl⟩
                intro j hj
                by_cases hji : j = i
                · subst hji; rw [oka, d2]; simp [d1]
                · exact hall j (by omega)
              | false =>
                rw [d2] at an
                right; right; right
                exact ⟨_, _, by simp [badding_right_0, a1, a0, tk, d1, lc, an] <;> rfl, .inr ⟨_, rfl, by rw [List.all_eq_false]; exact ⟨i, by simpa using hi, by rw [oka, d2]; simp⟩⟩⟩)
          (fun s hI => by
            obtain ⟨hall, y1, y5, rfl⟩ := hI
            rw [range_len] at hall
            refine .inl ⟨_, rfl, rfl, ?_⟩
            rw [List.all_eq_true]
            exact fun j hj => hall j (by simpa using hj))
          ⟨[some (.val (.tup [.str x, .int l, .tup (ch.map D.int)])), none, some (.val (.str x)), some (.val (.int l)), some (.val (.tup (ch.map D.int))), none, none], h⟩ ⟨fun j hj => by omega, _, _, rfl⟩
        have h1 : smallI 1 = true := by decide
        rcases loop with ⟨⟨t, h'⟩, e1, e2, e3⟩ | ⟨t, e1, e3⟩
        · dsimp only at e2; subst e2
          rw [e3]
          clear hlast hlen e3
          generalize ch.map D.int = CD at *
          have ch0' : ∀ hh : 0 < CD.length, CD[0]'hh = D.int a := fun hh => by rw [List.getElem?_eq_getElem hh] at ch0; exact Option.some.inj ch0
          simp [f_adding_right, TxtDef.def, startT, setAll, ch0', clen, hlast', c1, h1, hsm, cz, cr, e1]
        · rw [e3]
          clear hlast hlen e3
          generalize ch.map D.int = CD at *
          have ch0' : ∀ hh : 0 < CD.length, CD[0]'hh = D.int a := fun hh => by rw [List.getElem?_eq_getElem hh] at ch0; exact Option.some.inj ch0
          simp [f_adding_right, TxtDef.def, startT, setAll, ch0', clen, hlast', c1, h1, hsm, cz, cr, e1]
      · clear hlast hlen
        generalize ch.map D.int = CD at *
        have ch0' : ∀ hh : 0 < CD.length, CD[0]'hh = D.int a := fun hh => by rw [List.getElem?_eq_getElem hh] at ch0; exact Option.some.inj ch0
        simp [f_adding_right, TxtDef.def, startT, setAll, ch0', clen, hlast', c1, c2, cz]
    · clear hlast hlen
      generalize ch.map D.int = CD at *
      have ch0' : ∀ hh : 0 < CD.length, CD[0]'hh = D.int a := fun hh => by rw [List.getElem?_eq_getElem hh] at ch0; exact Option.some.inj ch0
      simp [f_adding_right, TxtDef.def, startT, setAll, ch0', clen, hlast', c1, cz]
theorem p_law_right (x : Str) (n : Int) (ch : List Int) (hl : ch.length ≤ line) (k : Nat) (h : List (List D)) :
    Phi fs (k + 1) "_law_right" [claimD x n ch] h = .ok (.val (.bl (rightB n ch))) h := by
  rw [Phi_run lk__law_right rfl]
  unfold claimD
  cases ch with
  | nil => simp [f__law_right, TxtDef.def, startT, setAll, rightB]
  | cons a r =>
    obtain ⟨ch, hch⟩ : ∃ ch, ch = a :: r := ⟨_, rfl⟩
    have hlen : ch.length = r.length + 1 := by rw [hch]; rfl
    rw [← hch] at hl
    have hsm : smallI ((r.length : Int) + 1) = true := by have := small_len (n := r.length + 1) (by omega); simpa using this
    obtain ⟨l, hlast⟩ : ∃ l, ch.getLast? = some l := by
      rw [hch]; exact ⟨_, List.getLast?_eq_some_getLast (by simp)⟩
    have hlast' : (ch.map D.int).getLast? = some (.int l) := by rw [getLast?_ints, hlast]; rfl
    have ch0 : (ch.map D.int)[0]? = some (.int a) := by rw [hch]; rfl
    have clen : (ch.map D.int).length = r.length + 1 := by simp [hlen]
    have rb : rightB n (a :: r) = (decide (a = 1) && decide (l = n) && (List.range r.length).all fun i => okAt ch (i + 1)) := by
      have e : rightB n (a :: r) = (decide (a = 1) && decide ((a :: r).getLast? = some n) && (List.range ((a :: r).length - 1)).all fun i => okAt (a :: r) (i + 1)) := rfl
      rw [e, ← hch, hlast, hlen]
      simp
    have cz : ¬ ((r.length : Int) + 1 = 0) := by omega
    have cr : ((r.length : Int) + 1 - 1).toNat = r.length := by omega
    have cd : (a :: r).map D.int = ch.map D.int := by rw [hch]
    rw [rb, cd]
    clear rb cd
    by_cases c1 : a = 1
    · by_cases c2 : l = n
      · subst c2
        have loop := forR_loop (Φ := Phi fs k) (t := .name 1) (b := b_law_right_0) (rangeD 1 r.length)
          (fun i s => (∀ j, j < i → okAt ch (j + 1) = true) ∧ ∃ y1, s = ⟨[some (.val (.tup [.str x, .int l, .tup (ch.map D.int)])), y1, some (.val (.int l)), some (.val (.tup (ch.map D.int))), none], h⟩)
          (fun r' => (∃ s, r' = .next s ∧ s.h = h ∧ ((List.range r.length).all fun i => okAt ch (i + 1)) = true) ∨ (∃ t, r' = .ret (.val (.bl false)) ⟨t, h⟩ ∧ ((List.range r.length).all fun i => okAt ch (i + 1)) = false))
          (fun i d s e hI => by
            obtain ⟨hall, y1, rfl⟩ := hI
            obtain ⟨rfl, hi⟩ := range_get _ _ _ _ e
            refine ⟨_, rfl, ?_⟩
            obtain ⟨ci, hci⟩ : ∃ ci : Int, ci = ((i + 1 : Nat) : Int) := ⟨_, rfl⟩
            obtain ⟨bf, hbf⟩ : ∃ bf, bf = ch.take (i + 1) := ⟨_, rfl⟩
            have e1 : (1 : Int) + (i : Int) = ci := by omega
            rw [e1]
            have a1 : atD (ch.map D.int) ci = some (.int (ch.getD (i + 1) 0)) := by rw [hci]; exact at_int ch (i + 1) (by omega)
            have a0 : atD (ch.map D.int) (ci - 1) = some (.int (ch.getD i 0)) := by
              rw [show (ci - 1) = (i : Int) by omega]; exact at_int ch i (by omega)
            have tk : cutD (ch.map D.int) none (some ci) = bf.map D.int := by rw [hci, cut_take, hbf, List.map_take]
            have oka : okAt ch (i + 1) = (!decide (ch.getD (i + 1) 0 ≤ ch.getD i 0) && (bf.map fun m => bf.any fun x => decide (x = ch.getD (i + 1) 0 - m)).any id) := by
              unfold okAt
              rw [Nat.add_sub_cancel, List.any_map, ← hbf]
              rfl
            have bl : bf.length ≤ line := by rw [hbf, List.length_take]; omega
            clear hci hbf
            generalize ch.getD (i + 1) 0 = u at *
            generalize ch.getD i 0 = v at *
            have lc := lcR_ints (Φ := Phi fs k) (i := 4) (elt := .cmp (.bin .sub (.idx (.var 3) (.var 1)) (.var 4)) (.cons .isin (.slc (.var 3) .none (.some (.var 1))) .nil)) (fun m => .bl (bf.any fun x => decide (x = u - m))) bf
              [some (.val (.tup [.str x, .int l, .tup (ch.map D.int)])), some (.val (.int ci)), some (.val (.int l)), some (.val (.tup (ch.map D.int))), none] h bl (fun m hm z => by
                simp [turnL, wipeT, MT.ids, bindT, a1, tk, dats_ints, isMem_ints])
            have bm : ∀ (g : Int → Bool) (l : List Int), l.map (fun m => D.bl (g m)) = (l.map g).map D.bl := fun g l => by rw [List.map_map]; rfl
            rw [bm] at lc
            have an := isMem_true (bf.map fun m => bf.any fun x => decide (x = u - m))
            have an0 := dats_bls 60 (bf.map fun m => bf.any fun x => decide (x = u - m))
            generalize (bf.map fun m => bf.any fun x => decide (x = u - m)) = bs at *
            by_cases d1 : u ≤ v
            · right; right; right
              exact ⟨_, _, by simp [b_law_right_0, a1, a0, tk, d1] <;> rfl, .inr ⟨_, rfl, by rw [List.all_eq_false]; exact ⟨i, by simpa using hi, by rw [oka]; simp [d1]⟩⟩⟩
            · cases d2 : bs.any id with
              | true =>
                rw [d2] at an
                left
                refine ⟨⟨[some (.val (.tup [.str x, .int l, .tup (ch.map D.int)])), some (.val (.int ci)), some (.val (.int l)), some (.val (.tup (ch.map D.int))), none], h⟩, by simp [b_law_right_0, a1, a0, tk, d1, lc, an, an0], ?_, _, rfl⟩
                intro j hj
                by_cases hji : j = i
                · subst hji; rw [oka, d2]; simp [d1]
                · exact hall j (by omega)
              | false =>
                rw [d2] at an
                right; right; right
                exact ⟨_, _, by simp [b_law_right_0, a1, a0, tk, d1, lc, an, an0] <;> rfl, .inr ⟨_, rfl, by rw [List.all_eq_false]; exact ⟨i, by simpa using hi, by rw [oka, d2]; simp⟩⟩⟩)
          (fun s hI => by
            obtain ⟨hall, y1, rfl⟩ := hI
            rw [range_len] at hall
            refine .inl ⟨_, rfl, rfl, ?_⟩
            rw [List.all_eq_true]
            exact fun j hj => hall j (by simpa using hj))
          ⟨[some (.val (.tup [.str x, .int l, .tup (ch.map D.int)])), none, some (.val (.int l)), some (.val (.tup (ch.map D.int))), none], h⟩ ⟨fun j hj => by omega, _, rfl⟩
        have h1 : smallI 1 = true := by decide
        rcases loop with ⟨⟨t, h'⟩, e1, e2, e3⟩ | ⟨t, e1, e3⟩
        · dsimp only at e2; subst e2
          rw [e3]
          clear hlast hlen e3
          generalize ch.map D.int = CD at *
          have ch0' : ∀ hh : 0 < CD.length, CD[0]'hh = D.int a := fun hh => by rw [List.getElem?_eq_getElem hh] at ch0; exact Option.some.inj ch0
          simp [f__law_right, TxtDef.def, startT, setAll, ch0', clen, hlast', c1, h1, hsm, cz, cr, e1]
        · rw [e3]
          clear hlast hlen e3
          generalize ch.map D.int = CD at *
          have ch0' : ∀ hh : 0 < CD.length, CD[0]'hh = D.int a := fun hh => by rw [List.getElem?_eq_getElem hh] at ch0; exact Option.some.inj ch0
          simp [f__law_right, TxtDef.def, startT, setAll, ch0', clen, hlast', c1, h1, hsm, cz, cr, e1]
      · clear hlast hlen
        generalize ch.map D.int = CD at *
        have ch0' : ∀ hh : 0 < CD.length, CD[0]'hh = D.int a := fun hh => by rw [List.getElem?_eq_getElem hh] at ch0; exact Option.some.inj ch0
        simp [f__law_right, TxtDef.def, startT, setAll, ch0', clen, hlast', c1, c2, cz]
    · clear hlast hlen
      generalize ch.map D.int = CD at *
      have ch0' : ∀ hh : 0 < CD.length, CD[0]'hh = D.int a := fun hh => by rw [List.getElem?_eq_getElem hh] at ch0; exact Option.some.inj ch0
      simp [f__law_right, TxtDef.def, startT, setAll, ch0', clen, hlast', c1, cz]
end K48

namespace K48
open PySem PI
/-! ### double chains -/
def stepL (t : Nat) : List Int := if t % 2 = 1 then [(t : Int) - 1, (t : Int)] else [(t : Int)]
/-- the chain after so many steps -/
def pre (n L : Nat) : Nat → List Int
  | 0 => [1]
  | i + 1 => pre n L i ++ stepL (n / 2 ^ (L - 1 - i))
def dbl (n : Nat) : List Int := pre n n.log2 n.log2
theorem pre_len (n L : Nat) : ∀ i, (pre n L i).length ≤ 2 * i + 1
  | 0 => by simp [pre]
  | i + 1 => by
    have := pre_len n L i
    unfold pre stepL
    rw [List.length_append]
    split <;> simp <;> omega
theorem div_pow (n j : Nat) (hj : j < 9000) : binD .fdiv (.int (n : Int)) (.int ((2 ^ j : Nat) : Int)) = some (.val (.int ((n / 2 ^ j : Nat) : Int))) := by
  have h0 : 0 < 2 ^ j := Nat.two_pow_pos j
  have hd : divOk ((2 ^ j : Nat) : Int) = true := by
    simp only [divOk, Bool.and_eq_true, decide_eq_true_eq, Int.natAbs_natCast, Nat.log2_two_pow]
    exact ⟨by omega, hj⟩
  rw [bin_fdivI hd]
  congr 3
  rw [Int.fdiv_eq_ediv_of_nonneg _ (by omega)]
  simp
theorem small_down2 : ∀ b : Nat, b ≤ 300 → Builtin.Range.small ((b : Int) - 1) (-1) (-1) = true := by decide +kernel
theorem p_double_chain (n : Nat) (h1 : 1 ≤ n) (hn : n.log2 ≤ 200) (k : Nat) (h : List (List D)) :
    Phi fs (k + 2) "double_chain" [.int n] h = .ok (.val (claimD "adding" n (dbl n))) h := by
  rw [Phi_run lk_double_chain rfl]
  obtain ⟨L, hL⟩ : ∃ L, L = n.log2 := ⟨_, rfl⟩
  obtain ⟨s', e, x, y, rfl⟩ := forR_all (Φ := Phi fs (k + 1)) (t := .name 2) (b := bdouble_chain_0) (rangeC ((L : Int) - 1) (-1) L)
    (fun i s => ∃ x y, s = ⟨[some (.val (.int n)), some (.own ((pre n L i).map D.int)), x, y], h⟩) (fun i d s hd hI => by
      obtain ⟨x, y, rfl⟩ := hI
      obtain ⟨rfl, hi⟩ := rangeC_get2 _ _ _ _ _ hd
      have hat : (L : Int) - 1 + i * (-1) = ((L - 1 - i : Nat) : Int) := by omega
      rw [hat]
      obtain ⟨j, hj⟩ : ∃ j, j = L - 1 - i := ⟨_, rfl⟩
      have er : Phi fs (k + 1) "raised" [.int 2, .int (j : Nat)] h = .ok (.val (.int ((2 ^ j : Nat) : Int))) h := q_raised lk_raised k 2 j (Nat.pow_lt_pow_right (by omega) (by omega)) h
      have dv := div_pow n j (by omega)
      have pl := pre_len n L i
      have px : pre n L (i + 1) = pre n L i ++ stepL (n / 2 ^ j) := by rw [hj]; rfl
      rw [px, ← hj]
      obtain ⟨t, ht⟩ : ∃ t, t = n / 2 ^ j := ⟨_, rfl⟩
      rw [← ht] at dv ⊢
      have e2 := mod2 t
      have lh : (pre n L i).length < line := by unfold line; omega
      have lh1 : (pre n L i).length + 1 < line := by unfold line; omega
      clear hj ht px hat hd
      generalize pre n L i = P at *
      generalize (2 : Nat) ^ j = pw at *
      rcases (by omega : t % 2 = 0 ∨ t % 2 = 1) with z | z
      · rw [z] at e2
        exact ⟨_, rfl, ⟨[some (.val (.int n)), some (.own ((P ++ stepL t).map D.int)), some (.val (.int (j : Nat))), some (.val (.int (t : Nat)))], h⟩, by simp [bdouble_chain_0, er, dv, e2, ownAt, lh, stepL, z], _, _, rfl⟩
      · rw [z] at e2
        exact ⟨_, rfl, ⟨[some (.val (.int n)), some (.own ((P ++ stepL t).map D.int)), some (.val (.int (j : Nat))), some (.val (.int (t : Nat)))], h⟩, by simp [bdouble_chain_0, er, dv, e2, ownAt, lh, lh1, stepL, z], _, _, rfl⟩)
    ⟨[some (.val (.int n)), some (.own [.int 1]), none, none], h⟩ ⟨none, none, rfl⟩
  rw [rangeC_len] at e
  have td := turns_down L
  have sm : Builtin.Range.small ((L : Int) - 1) (-1) (-1) = true := small_down2 L (by omega)
  have c1 : ¬ (n : Int) < 1 := by omega
  have c2 : ¬ n = 0 := by omega
  have b2 : (n.log2 : Int) + 1 - 2 = (L : Int) - 1 := by omega
  have eD : dbl n = pre n L L := by unfold dbl; rw [hL]
  unfold claimD
  rw [eD]
  clear eD
  generalize pre n L L = P at *
  simp [f_double_chain, TxtDef.def, startT, c1, c2, b2, sm, td, e]
/-! ### .. by the figures -/
def digits (n : Nat) : Nat → List Int
  | 0 => []
  | i + 1 => digits n i ++ (if n / 2 ^ i = 0 then [] else [((n / 2 ^ i % 2 : Nat) : Int)])
theorem digits_len (n : Nat) (h1 : 1 ≤ n) : ∀ i, (digits n i).length = min i (n.log2 + 1)
  | 0 => by simp [digits]
  | i + 1 => by
    unfold digits
    rw [List.length_append, digits_len n h1 i]
    by_cases z : n / 2 ^ i = 0
    · rw [if_pos z]
      have hlt : n < 2 ^ i := by
        rcases Nat.div_eq_zero_iff.mp z with q | q
        · have := Nat.two_pow_pos i; omega
        · exact q
      have := (Nat.log2_lt (by omega : n ≠ 0)).mpr hlt
      simp; omega
    · rw [if_neg z]
      have : ¬ n.log2 < i := fun q => z (Nat.div_eq_of_lt ((Nat.log2_lt (by omega : n ≠ 0)).mp q))
      simp; omega
theorem digits_get (n : Nat) (h1 : 1 ≤ n) : ∀ i j, j < i → j ≤ n.log2 → (digits n i)[j]? = some ((n / 2 ^ j % 2 : Nat) : Int)
  | i + 1, j, hj, hl => by
    unfold digits
    have len := digits_len n h1 i
    by_cases c : j < i
    · rw [List.getElem?_append_left (by omega)]
      exact digits_get n h1 i j c hl
    · have : j = i := by omega
      subst this
      rw [List.getElem?_append_right (by omega), len]
      have z : n / 2 ^ j ≠ 0 := fun z => by
        rcases Nat.div_eq_zero_iff.mp z with q | q
        · have := Nat.two_pow_pos j; omega
        · have := (Nat.log2_lt (by omega : n ≠ 0)).mpr q; omega
      rw [if_neg z, Nat.min_eq_left (by omega)]
      simp
/-- the figures from the top, less the first -/
theorem digits_rev (n : Nat) (h1 : 1 ≤ n) (hn : n.log2 < 200) (i : Nat) (hi : i < n.log2) : (((digits n 200).reverse).drop 1)[i]? = some ((n / 2 ^ (n.log2 - 1 - i) % 2 : Nat) : Int) := by
  have len := digits_len n h1 200
  rw [List.getElem?_drop, List.getElem?_reverse (by omega), len]
  have e : min 200 (n.log2 + 1) - 1 - (1 + i) = n.log2 - 1 - i := by omega
  rw [e]
  exact digits_get n h1 200 _ (by omega) (by omega)
theorem p_law_double (n : Nat) (h1 : 1 ≤ n) (hn : n.log2 < 200) (k : Nat) (h : List (List D)) :
    Phi fs (k + 1) "_law_double" [.int n] h = .ok (.val (.tup ((dbl n).map D.int))) h := by
  rw [Phi_run lk__law_double rfl]
  obtain ⟨s', e, x, rfl⟩ := forR_all (Φ := Phi fs k) (t := .name 2) (b := b_law_double_1) (rangeD 0 200)
    (fun i s => ∃ x, s = ⟨[some (.val (.int ((n / 2 ^ i : Nat) : Int))), some (.own ((digits n i).map D.int)), x, none, none, none], h⟩) (fun i d s hd hI => by
      obtain ⟨x, rfl⟩ := hI
      obtain ⟨rfl, hi⟩ := range_get _ _ _ _ hd
      have len := digits_len n h1 i
      have lh : (digits n i).length < line := by unfold line; omega
      have nx : n / 2 ^ (i + 1) = n / 2 ^ i / 2 := by rw [Nat.div_div_eq_div_mul, ← Nat.pow_succ]
      rw [nx]
      have dx : digits n (i + 1) = digits n i ++ (if n / 2 ^ i = 0 then [] else [((n / 2 ^ i % 2 : Nat) : Int)]) := rfl
      rw [dx]
      obtain ⟨t, ht⟩ : ∃ t, t = n / 2 ^ i := ⟨_, rfl⟩
      rw [← ht]
      have e2 := mod2 t
      have e3 := div2 t
      clear ht dx nx len
      generalize digits n i = P at *
      refine ⟨_, rfl, ⟨[some (.val (.int ((t / 2 : Nat) : Int))), some (.own ((P ++ (if t = 0 then [] else [((t % 2 : Nat) : Int)])).map D.int)), some (.val (.int (0 + (i : Nat)))), none, none, none], h⟩, ?_, _, rfl⟩
      generalize t % 2 = u at *
      generalize ht2 : t / 2 = v at *
      by_cases z : t = 0
      · subst z
        have : v = 0 := by omega
        subst this
        simp [b_law_double_1]
      · have z1 : 0 < t := by omega
        have z2 : (0 : Int) < t := by omega
        simp [b_law_double_1, z, z1, z2, e2, e3, ownAt, lh])
    ⟨[some (.val (.int n)), some (.own []), none, none, none, none], h⟩ ⟨none, by simp [digits]⟩
  rw [range_len] at e
  obtain ⟨L, hL⟩ : ∃ L, L = n.log2 := ⟨_, rfl⟩
  obtain ⟨F, hF⟩ : ∃ F, F = (digits n 200).map D.int := ⟨_, rfl⟩
  have dl := digits_len n h1 200
  have fl : (F.reverse.drop 1).length = L := by rw [hF, List.length_drop, List.length_reverse, List.length_map, dl]; omega
  have ff : ∀ i, i < L → (F.reverse.drop 1)[i]? = some (.int ((n / 2 ^ (L - 1 - i) % 2 : Nat) : Int)) := fun i hi => by
    have g := digits_rev n h1 hn i (by omega)
    rw [hF, ← List.map_reverse, ← List.map_drop, List.getElem?_map, g, hL]
    rfl
  have dv0 : n / 2 ^ L = 1 := by
    rw [hL]
    have a1 := Nat.log2_self_le (by omega : n ≠ 0)
    have a2 := Nat.lt_log2_self (n := n)
    rw [Nat.pow_succ] at a2
    exact Nat.div_eq_of_lt_le (by omega) (by omega)
  obtain ⟨s2, e2, y3, y5, rfl⟩ := forR_all (Φ := Phi fs k) (t := .name 5) (b := b_law_double_0) (F.reverse.drop 1)
    (fun i s => ∃ x5 : Option Sl, ∃ y : Nat, s = ⟨[some (.val (.int ((n / 2 ^ 200 : Nat) : Int))), some (.own F), x, some (.val (.int ((n / 2 ^ (L - i) : Nat) : Int))), some (.own ((pre n L i).map D.int)), x5], h⟩) (fun i d s hd hI => by
      obtain ⟨x5, y, rfl⟩ := hI
      have hi : i < L := by rw [← fl]; exact (List.getElem?_eq_some_iff.mp hd).1
      rw [ff i hi] at hd
      cases hd
      have pl := pre_len n L i
      have lh : (pre n L i).length < line := by unfold line; omega
      have lh1 : (pre n L i).length + 1 < line := by unfold line; omega
      have px : pre n L (i + 1) = pre n L i ++ stepL (n / 2 ^ (L - 1 - i)) := rfl
      have half : n / 2 ^ (L - i) = n / 2 ^ (L - 1 - i) / 2 := by
        rw [Nat.div_div_eq_div_mul, ← Nat.pow_succ, show (L - 1 - i).succ = L - i by omega]
      have nx : L - (i + 1) = L - 1 - i := by omega
      rw [px, nx, half]
      obtain ⟨t, ht⟩ : ∃ t, t = n / 2 ^ (L - 1 - i) := ⟨_, rfl⟩
      rw [← ht]
      have m2 : ∀ b, binD .mul (.int 2) (.int b) = some (.val (.int (2 * b))) := fun b => mulL (by decide)
      clear ht px half nx
      generalize pre n L i = P at *
      generalize n / 2 ^ 200 = N0 at *
      rcases (by omega : t % 2 = 0 ∨ t % 2 = 1) with z | z
      · have t2 : (2 : Int) * ((t / 2 : Nat) : Int) = (t : Int) := by omega
        rw [z]
        generalize t / 2 = v at *
        exact ⟨_, rfl, ⟨[some (.val (.int (N0 : Nat))), some (.own F), x, some (.val (.int (t : Int))), some (.own ((P ++ stepL t).map D.int)), some (.val (.int 0))], h⟩, by simp [b_law_double_0, m2, t2, ownAt, lh, stepL, z], _, 0, rfl⟩
      · have t2 : (2 : Int) * ((t / 2 : Nat) : Int) = (t : Int) - 1 := by omega
        have t3 : (t : Int) - 1 + 1 = t := by omega
        rw [z]
        generalize t / 2 = v at *
        exact ⟨_, rfl, ⟨[some (.val (.int (N0 : Nat))), some (.own F), x, some (.val (.int (t : Int))), some (.own ((P ++ stepL t).map D.int)), some (.val (.int 1))], h⟩, by simp [b_law_double_0, m2, t2, t3, ownAt, lh, lh1, stepL, z], _, 0, rfl⟩)
    ⟨[some (.val (.int ((n / 2 ^ 200 : Nat) : Int))), some (.own F), x, some (.val (.int 1)), some (.own [.int 1]), none], h⟩ ⟨none, 0, by rw [Nat.sub_zero, dv0]; rfl⟩
  rw [fl, show F.reverse.drop 1 = F.dropLast.reverse by simp] at e2
  have sm : smallI 200 = true := by decide
  have eD : dbl n = pre n L L := by unfold dbl; rw [hL]
  rw [← hF] at e
  rw [eD]
  clear eD dl hF fl ff dv0 hL
  generalize pre n L L = P at *
  generalize n / 2 ^ 200 = N0 at *
  generalize n / 2 ^ (L - L) = N1 at *
  simp [f__law_double, TxtDef.def, startT, sm, e, e2]
end K48

namespace K48
open PySem PI
/-! ### short chains -/
def first {α : Type} : List Nat → (Nat → Option α) → Option α
  | [], _ => none
  | o :: r, f => match f o with | some x => some x | none => first r f
/-- chains turned round that go on to a number by so many steps at most -/
def go : Nat → List Nat → Nat → Option (List Nat)
  | 0, r, n => if (r.headD 0).beq n then some r else none
  | k + 1, r, n => if (r.headD 0).beq n then some r else if Nat.blt (r.headD 0 * 2 ^ (k + 1)) n then none else
      first r fun o => if Nat.blt n (r.headD 0 + o) then none else go k ((r.headD 0 + o) :: r) n
def sh : Nat → Nat → Nat → Option (List Nat)
  | 0, _, _ => none
  | f + 1, k, n => match go k [1] n with | some r => some r | none => sh f (k + 1) n
def upL (r : List Nat) : List D := r.reverse.map fun (a : Nat) => D.int (a : Int)
def optD : Option (List Nat) → D
  | some r => .tup (upL r)
  | none => .non
theorem upL_cons (a : Nat) (r : List Nat) : upL (a :: r) = upL r ++ [.int (a : Int)] := by unfold upL; simp
theorem upL_len (r : List Nat) : (upL r).length = r.length := by unfold upL; simp
theorem upL_rev (r : List Nat) : (upL r).reverse = r.map fun (a : Nat) => D.int (a : Int) := by unfold upL; rw [← List.map_reverse, List.reverse_reverse]
theorem first_drop {α : Type} (f : Nat → Option α) (r : List Nat) (i o : Nat) (h : r[i]? = some o) : first (r.drop i) f = match f o with | some x => some x | none => first (r.drop (i + 1)) f := by
  obtain ⟨hi, e⟩ := List.getElem?_eq_some_iff.mp h
  rw [List.drop_eq_getElem_cons hi, e]
  rfl
theorem p_found (n : Nat) (hn : n ≤ 100) : ∀ (k : Nat) (a : Nat) (r : List Nat), k ≤ 20 → r.length + k ≤ 100 → (∀ x ∈ a :: r, x ≤ n) → ∀ (lv : Nat) (h : List (List D)) (M : Int), M = ((r.length + 1 + k : Nat) : Int) →
    Phi fs (k + lv + 2) "_found" [.tup (upL (a :: r)), .int n, .int M] h = .ok (.val (optD (go k (a :: r) n))) h := by
  intro k
  induction k with
  | zero =>
    intro a r hk hr hall lv h M hM
    have e0 : 0 + lv + 2 = (lv + 1) + 1 := by omega
    rw [e0, Phi_run lk__found rfl]
    unfold go
    have lst : (upL (a :: r)).getLast? = some (.int (a : Int)) := by rw [upL_cons]; simp
    have len := upL_len (a :: r)
    have hM2 : ((upL (a :: r)).length : Int) = M := by rw [len, hM]; simp
    have hh : (a :: r).headD 0 = a := rfl
    rw [hh]
    by_cases c : a = n
    · subst c
      rw [if_pos (Nat.beq_refl a), show optD (some (a :: r)) = .tup (upL (a :: r)) from rfl]
      generalize upL (a :: r) = U at *
      simp [f__found, TxtDef.def, startT, lst]
    · have c2 : (a.beq n) = false := by rw [← Bool.not_eq_true]; exact fun z => c (Nat.eq_of_beq_eq_true z)
      rw [c2, if_neg (by decide)]
      unfold optD
      have c3 : ¬ (a : Int) = n := by omega
      clear len
      generalize upL (a :: r) = U at *
      simp [f__found, TxtDef.def, startT, lst, c, c3, hM2]
  | succ k ih =>
    intro a r hk hr hall lv h M hM
    have e0 : k + 1 + lv + 2 = (k + lv + 2) + 1 := by omega
    rw [e0, Phi_run lk__found rfl]
    unfold go
    have lst : (upL (a :: r)).getLast? = some (.int (a : Int)) := by rw [upL_cons]; simp
    have len := upL_len (a :: r)
    have hl2 : (a :: r).length = r.length + 1 := rfl
    have hh : (a :: r).headD 0 = a := rfl
    rw [hh]
    by_cases c : a = n
    · subst c
      rw [if_pos (Nat.beq_refl a), show optD (some (a :: r)) = .tup (upL (a :: r)) from rfl]
      generalize upL (a :: r) = U at *
      simp [f__found, TxtDef.def, startT, lst]
    have c2 : (a.beq n) = false := by rw [← Bool.not_eq_true]; exact fun z => c (Nat.eq_of_beq_eq_true z)
    rw [c2, if_neg (by decide)]
    have c3 : ¬ (a : Int) = n := by omega
    have c4 : ¬ ((upL (a :: r)).length : Int) = M := by rw [len, hM, hl2]; omega
    have c5 : M - ((upL (a :: r)).length : Int) = ((k + 1 : Nat) : Int) := by rw [len, hM, hl2]; omega
    have er : Phi fs (k + lv + 2) "raised" [.int 2, .int ((k + 1 : Nat) : Int)] h = .ok (.val (.int ((2 ^ (k + 1) : Nat) : Int))) h := q_raised lk_raised (k + lv + 1) 2 (k + 1) (Nat.pow_lt_pow_right (by omega) (by omega)) h
    rw [← c5] at er
    have an : a ≤ n := hall a List.mem_cons_self
    have ml : binD .mul (.int (a : Int)) (.int ((2 ^ (k + 1) : Nat) : Int)) = some (.val (.int ((a * 2 ^ (k + 1) : Nat) : Int))) := by rw [mulL (by omega)]; push_cast; rfl
    by_cases d : a * 2 ^ (k + 1) < n
    · have d2 : Nat.blt (a * 2 ^ (k + 1)) n = true := by rw [Nat.blt_eq]; exact d
      rw [d2, if_pos rfl]
      have d3 : ((a * 2 ^ (k + 1) : Nat) : Int) < n := by omega
      unfold optD
      clear len d2 d
      generalize a * 2 ^ (k + 1) = q1 at *
      generalize 2 ^ (k + 1) = q2 at *
      generalize upL (a :: r) = U at *
      simp [f__found, TxtDef.def, startT, lst, c, c3, c4, er, ml, d3]
    · have d2 : Nat.blt (a * 2 ^ (k + 1)) n = false := by rw [← Bool.not_eq_true, Nat.blt_eq]; exact d
      rw [d2, if_neg (by decide)]
      have d3 : ¬ ((a * 2 ^ (k + 1) : Nat) : Int) < n := by omega
      obtain ⟨f, hf⟩ : ∃ f : Nat → Option (List Nat), f = fun o => if Nat.blt n (a + o) then none else go k ((a + o) :: a :: r) n := ⟨_, rfl⟩
      rw [← hf]
      obtain ⟨U, hU⟩ : ∃ U, U = upL (a :: r) := ⟨_, rfl⟩
      have loop := forR_loop (Φ := Phi fs (k + lv + 2)) (t := .name 3) (b := b_found_0) ((a :: r).map fun (a : Nat) => D.int (a : Int))
        (fun i s => first ((a :: r).drop i) f = first (a :: r) f ∧ ∃ x3 x4, s = ⟨[some (.val (.tup U)), some (.val (.int n)), some (.val (.int M)), x3, x4], h⟩)
        (fun r' => (∃ t, r' = .next ⟨t, h⟩ ∧ first (a :: r) f = none) ∨ ∃ t q, r' = .ret (.val (.tup (upL q))) ⟨t, h⟩ ∧ first (a :: r) f = some q)
        (fun i d s e hI => by
          obtain ⟨hfi, x3, x4, rfl⟩ := hI
          rw [List.getElem?_map] at e
          cases ho : (a :: r)[i]? with
          | none => rw [ho] at e; cases e
          | some o =>
          rw [ho] at e
          cases e
          rw [first_drop f _ i o ho] at hfi
          have lst' : U.getLast? = some (.int (a : Int)) := by rw [hU]; exact lst
          refine ⟨_, rfl, ?_⟩
          by_cases g : n < a + o
          · right; left
            have g2 : (n : Int) < (a : Int) + (o : Int) := by omega
            have fo : f o = none := by rw [hf]; dsimp only; rw [if_pos (by rw [Nat.blt_eq]; exact g)]
            rw [fo] at hfi
            exact ⟨⟨[some (.val (.tup U)), some (.val (.int n)), some (.val (.int M)), some (.val (.int (o : Nat))), x4], h⟩, by simp [b_found_0, lst', g2], hfi, _, _, rfl⟩
          · have g2 : ¬ (n : Int) < (a : Int) + (o : Int) := by omega
            have fo : f o = go k ((a + o) :: a :: r) n := by rw [hf]; dsimp only; rw [if_neg (by rw [Nat.blt_eq]; exact g)]
            have rc0 := ih (a + o) (a :: r) (by omega) (by rw [hl2]; omega) (fun x hx => by
              rcases List.mem_cons.mp hx with rfl | hx
              · omega
              · exact hall x hx) lv h M (by rw [hM, hl2]; congr 1; omega)
            rw [upL_cons, ← hU] at rc0
            have ia : (((a + o : Nat)) : Int) = (a : Int) + (o : Int) := by omega
            rw [ia] at rc0
            have add : binD .add (.tup U) (.tup [.int ((a : Int) + (o : Int))]) = some (.val (.tup (U ++ [.int ((a : Int) + (o : Int))]))) := bin_addT (by rw [hU, len, hl2]; unfold line; simp; omega)
            cases w : go k ((a + o) :: a :: r) n with
            | none =>
              left
              rw [w] at rc0
              rw [fo, w] at hfi
              exact ⟨⟨[some (.val (.tup U)), some (.val (.int n)), some (.val (.int M)), some (.val (.int (o : Nat))), some (.val .non)], h⟩, by simp [b_found_0, lst', g2, add, rc0, optD], hfi, _, _, rfl⟩
            | some q =>
              right; right; right
              rw [w] at rc0
              rw [fo, w] at hfi
              refine ⟨_, _, by simp [b_found_0, lst', g2, add, rc0, optD, cmpD, D.isNon] <;> rfl, .inr ⟨_, q, rfl, hfi.symm⟩⟩)
        (fun s hI => by
          obtain ⟨hfi, x3, x4, rfl⟩ := hI
          rw [List.length_map, List.drop_length] at hfi
          exact .inl ⟨_, rfl, hfi.symm⟩)
        ⟨[some (.val (.tup U)), some (.val (.int n)), some (.val (.int M)), none, none], h⟩ ⟨by rw [List.drop_zero], _, _, rfl⟩
      have rv : U.reverse = (a :: r).map fun (a : Nat) => D.int (a : Int) := by rw [hU]; exact upL_rev _
      rw [← rv] at loop
      rw [← hU] at lst c4 er ⊢
      clear hU hf rv hall d d2 len
      generalize a * 2 ^ (k + 1) = q1 at *
      generalize 2 ^ (k + 1) = q2 at *
      rcases loop with ⟨t, e1, e2⟩ | ⟨t, q, e1, e2⟩
      · rw [e2]
        simp [f__found, TxtDef.def, startT, lst, c, c3, c4, er, ml, d3, e1, optD]
      · rw [e2]
        simp [f__found, TxtDef.def, startT, lst, c, c3, c4, er, ml, d3, e1, optD]
end K48

namespace K48
open PySem PI
theorem p_short_chain (n : Nat) (h1 : 1 ≤ n) (hn : n ≤ 100) (q : List Nat) (hq : sh 5 n.log2 n = some q) (lv : Nat) (h : List (List D)) :
    Phi fs (lv + 30) "short_chain" [.int n] h = .ok (.val (claimD "adding" n (q.reverse.map fun (a : Nat) => (a : Int)))) h := by
  rw [Phi_run lk_short_chain rfl]
  have lg : n.log2 ≤ 6 := by
    have := (Nat.log2_lt (by omega : n ≠ 0)).mpr (by omega : n < 2 ^ 7)
    omega
  have loop := ex_loop (Φ := Phi fs (lv + 29)) (c := cshort_chain_0) (b := bshort_chain_0)
    (fun s => (∃ (f kk : Nat) (K : Int), K = ((kk + 1 : Nat) : Int) ∧ kk + f ≤ 11 ∧ sh f kk n = some q ∧ s = ⟨[some (.val (.int n)), some (.val (.int K)), some (.val .non)], h⟩) ∨ ∃ y, s = ⟨[some (.val (.int n)), some (.val (.int y)), some (.val (.tup (upL q)))], h⟩)
    (fun s => match s.t[2]? with | some (some (Sl.val D.non)) => (100 - intAt 1 s).toNat + 1 | _ => 0)
    (fun r => ∃ y, r = .next ⟨[some (.val (.int n)), some (.val (.int y)), some (.val (.tup (upL q)))], h⟩) (fun s hI => by
      rcases hI with ⟨f, kk, K, hK, hk, hs, rfl⟩ | ⟨y, rfl⟩
      · right
        refine ⟨⟨[some (.val (.int n)), some (.val (.int K)), some (.val .non)], h⟩, by simp [cshort_chain_0], .inl ?_⟩
        cases f with
        | zero => cases hs
        | succ f =>
          have hs : (match go kk [1] n with | some r => some r | none => sh f (kk + 1) n) = some q := hs
          have fo := p_found n hn kk 1 [] (by omega) (by simp; omega) (fun x hx => by simp at hx; omega) (lv + 27 - kk) h K (by rw [hK]; simp; omega)
          rw [show kk + (lv + 27 - kk) + 2 = lv + 29 by omega, show upL [1] = [.int 1] from rfl] at fo
          cases w : go kk [1] n with
          | some r =>
            rw [w] at hs fo
            cases hs
            exact ⟨⟨[some (.val (.int n)), some (.val (.int (K + 1))), some (.val (.tup (upL q)))], h⟩, by simp [bshort_chain_0, fo, optD], .inr ⟨_, rfl⟩, by simp⟩
          | none =>
            rw [w] at hs fo
            obtain ⟨K2, hK2⟩ : ∃ K2 : Int, K + 1 = K2 := ⟨_, rfl⟩
            refine ⟨⟨[some (.val (.int n)), some (.val (.int K2)), some (.val .non)], h⟩, by simp [bshort_chain_0, fo, optD, hK2], .inl ⟨f, kk + 1, K2, by omega, by omega, hs, rfl⟩, ?_⟩
            show (100 - K2).toNat + 1 < (100 - K).toNat + 1
            omega
      · left
        exact ⟨⟨[some (.val (.int n)), some (.val (.int y)), some (.val (.tup (upL q)))], h⟩, by simp [cshort_chain_0], _, rfl⟩)
    ⟨[some (.val (.int n)), some (.val (.int ((n.log2 : Int) + 1))), some (.val .non)], h⟩ (.inl ⟨5, n.log2, _, by omega, by omega, hq, rfl⟩)
  obtain ⟨y, e⟩ := loop
  have c1 : ¬ (n : Int) < 1 := by omega
  have c2 : ¬ n = 0 := by omega
  have c3 : ¬ (100 : Int) < n := by omega
  have u2 : (q.reverse.map fun (a : Nat) => (a : Int)).map D.int = upL q := by unfold upL; rw [List.map_map]; rfl
  unfold claimD
  rw [u2]
  generalize upL q = U at *
  simp [f_short_chain, TxtDef.def, startT, c1, c2, c3, e]
/-! ### the least lengths -/
abbrev LSt := List (List Int) × List (Int × Int)
def putOne (n len : Int) (ch : List Int) (st : LSt) (m : Int) : LSt := if m ≤ n then (st.1 ++ [ch ++ [m]], if st.2.any (fun p => decide (p.1 = m)) then st.2 else st.2 ++ [(m, len)]) else st
def sums (ch : List Int) : List Int := sortD (once (ch.map fun o => ch.getLast?.getD 0 + o))
def putCh (n len : Int) (st : LSt) (ch : List Int) : LSt := (sums ch).foldl (putOne n len ch) st
/-- all chains of a length, from those that are shorter by one -/
def level (n len : Int) (st : LSt) : LSt := st.1.foldl (putCh n len) ([], st.2)
def levels (n : Int) : Nat → LSt
  | 0 => ([[1]], [(1, 1)])
  | i + 1 => level n (2 + i) (levels n i)
def chD (ch : List Int) : D := .tup (ch.map D.int)
def kvD (f : List (Int × Int)) : List (L2.Key × D) := f.map fun p => (.inl p.1, .int p.2)
theorem kget_kvD (f : List (Int × Int)) (m : Int) : (kget (kvD f) (.inl m)).isSome = f.any fun p => decide (p.1 = m) := by
  induction f with
  | nil => rfl
  | cons p f ih =>
    unfold kvD at ih ⊢
    rw [List.map_cons, List.any_cons]
    unfold kget
    by_cases e : p.1 = m
    · simp [e]
    · have e2 : ¬ (Sum.inl p.1 : L2.Key) = .inl m := fun z => e (Sum.inl.inj z)
      rw [if_neg e2, ih]
      simp [e]
theorem kput_kvD (f : List (Int × Int)) (m v : Int) (h : (f.any fun p => decide (p.1 = m)) = false) : kput (kvD f) (.inl m) (.int v) = kvD (f ++ [(m, v)]) := by
  unfold kput
  have e : ((kvD f).any fun kv => decide (kv.1 = (Sum.inl m : L2.Key))) = false := by
    unfold kvD
    rw [List.any_map, ← h]
    congr 1
    funext p
    simp [Function.comp]
  rw [e, if_neg (by decide)]
  unfold kvD
  simp
theorem mono_one (n len : Int) (ch : List Int) (st : LSt) (m : Int) : st.1.length ≤ (putOne n len ch st m).1.length ∧ st.2.length ≤ (putOne n len ch st m).2.length := by
  unfold putOne
  split
  · constructor
    · simp
    · dsimp only; split <;> simp
  · exact ⟨Nat.le_refl _, Nat.le_refl _⟩
theorem mono_fold {α : Type} (f : LSt → α → LSt) (hf : ∀ st a, st.1.length ≤ (f st a).1.length ∧ st.2.length ≤ (f st a).2.length) : ∀ (l : List α) (st : LSt), st.1.length ≤ (l.foldl f st).1.length ∧ st.2.length ≤ (l.foldl f st).2.length
  | [], st => ⟨Nat.le_refl _, Nat.le_refl _⟩
  | a :: l, st => by
    rw [List.foldl_cons]
    obtain ⟨h1, h2⟩ := hf st a
    obtain ⟨h3, h4⟩ := mono_fold f hf l (f st a)
    exact ⟨by omega, by omega⟩
theorem mono_ch (n len : Int) (st : LSt) (ch : List Int) : st.1.length ≤ (putCh n len st ch).1.length ∧ st.2.length ≤ (putCh n len st ch).2.length := mono_fold _ (mono_one n len ch) _ _
theorem fold_take {α : Type} (f : LSt → α → LSt) (l : List α) (st : LSt) (i : Nat) (a : α) (h : l[i]? = some a) : (l.take (i + 1)).foldl f st = f ((l.take i).foldl f st) a := by
  obtain ⟨hi, e⟩ := List.getElem?_eq_some_iff.mp h
  rw [List.take_succ, h, List.foldl_append]
  rfl
theorem mono_take {α : Type} (f : LSt → α → LSt) (hf : ∀ st a, st.1.length ≤ (f st a).1.length ∧ st.2.length ≤ (f st a).2.length) (l : List α) (st : LSt) (i : Nat) : ((l.take i).foldl f st).1.length ≤ (l.foldl f st).1.length ∧ ((l.take i).foldl f st).2.length ≤ (l.foldl f st).2.length := by
  have e : l.foldl f st = (l.drop i).foldl f ((l.take i).foldl f st) := by rw [← List.foldl_append, List.take_append_drop]
  rw [e]
  exact mono_fold f hf _ _
/-- the innermost loop -/
theorem p_inner (n len : Int) (ch : List Int) (st : LSt) (hl : ch.length ≤ 50) (hb : ((sums ch).foldl (putOne n len ch) st).1.length < line ∧ ((sums ch).foldl (putOne n len ch) st).2.length < line) (k : Nat) (h : List (List D)) (a0 a3 a7 a8 : Option Sl) :
    ∃ b7, forR (Phi fs k) (.name 7) b_law_lengths_2 ((sums ch).map D.int) ⟨[a0, some (.val (.int n)), some (.dct (kvD st.2)), a3, some (.val (.int len)), some (.own (st.1.map chD)), some (.val (chD ch)), a7, a8], h⟩ =
      .next ⟨[a0, some (.val (.int n)), some (.dct (kvD (putCh n len st ch).2)), a3, some (.val (.int len)), some (.own ((putCh n len st ch).1.map chD)), some (.val (chD ch)), b7, a8], h⟩ := by
  obtain ⟨s', e, b7, rfl⟩ := forR_all (Φ := Phi fs k) (t := .name 7) (b := b_law_lengths_2) ((sums ch).map D.int)
    (fun i s => ∃ b7, s = ⟨[a0, some (.val (.int n)), some (.dct (kvD (((sums ch).take i).foldl (putOne n len ch) st).2)), a3, some (.val (.int len)), some (.own ((((sums ch).take i).foldl (putOne n len ch) st).1.map chD)), some (.val (chD ch)), b7, a8], h⟩) (fun i d s e hI => by
      obtain ⟨b7, rfl⟩ := hI
      rw [List.getElem?_map] at e
      cases hm : (sums ch)[i]? with
      | none => rw [hm] at e; cases e
      | some m =>
      rw [hm] at e
      cases e
      have mt := mono_take (putOne n len ch) (mono_one n len ch) (sums ch) st i
      rw [fold_take _ _ _ _ _ hm]
      generalize ((sums ch).take i).foldl (putOne n len ch) st = st1 at *
      refine ⟨_, rfl, ?_⟩
      have add : binD .add (.tup (ch.map D.int)) (.tup [.int m]) = some (.val (chD (ch ++ [m]))) := by
        rw [bin_addT (by unfold line; simp; omega)]; unfold chD; simp
      have l1 : st1.1.length < line := by omega
      have l2 : (kvD st1.2).length < line := by unfold kvD; simp; omega
      unfold putOne
      by_cases c : m ≤ n
      · rw [if_pos c]
        cases c2 : st1.2.any (fun p => decide (p.1 = m)) with
        | true =>
          have g := kget_kvD st1.2 m
          rw [c2] at g
          dsimp only
          rw [if_pos rfl]
          exact ⟨⟨[a0, some (.val (.int n)), some (.dct (kvD st1.2)), a3, some (.val (.int len)), some (.own ((st1.1 ++ [ch ++ [m]]).map chD)), some (.val (chD ch)), some (.val (.int m)), a8], h⟩, by
            simp [b_law_lengths_2, c, chD, add, ownAt, l1, g], _, rfl⟩
        | false =>
          have g := kget_kvD st1.2 m
          rw [c2] at g
          have kp := kput_kvD st1.2 m len c2
          dsimp only
          rw [if_neg (by decide)]
          refine ⟨⟨[a0, some (.val (.int n)), some (.dct (kvD (st1.2 ++ [(m, len)]))), a3, some (.val (.int len)), some (.own ((st1.1 ++ [ch ++ [m]]).map chD)), some (.val (chD ch)), some (.val (.int m)), a8], h⟩, ?_, _, rfl⟩
          rw [← kp]
          generalize kvD st1.2 = KV at *
          have pa : ∀ l t, putAt (.ldc 2 l) (.int m) (.int len) ⟨a0 :: some (.val (.int n)) :: some (.dct KV) :: t, h⟩ = .next ⟨a0 :: some (.val (.int n)) :: some (.dct (kput KV (.inl m) (.int len))) :: t, h⟩ := fun l t => putAt_ldc (i := 2) (kvs := KV) (q := .inl m) rfl rfl l2
          simp [b_law_lengths_2, c, chD, add, ownAt, l1, g, pa]
      · rw [if_neg c]
        exact ⟨⟨[a0, some (.val (.int n)), some (.dct (kvD st1.2)), a3, some (.val (.int len)), some (.own (st1.1.map chD)), some (.val (chD ch)), some (.val (.int m)), a8], h⟩, by simp [b_law_lengths_2, c], _, rfl⟩)
    ⟨[a0, some (.val (.int n)), some (.dct (kvD st.2)), a3, some (.val (.int len)), some (.own (st.1.map chD)), some (.val (chD ch)), a7, a8], h⟩ ⟨a7, rfl⟩
  refine ⟨b7, ?_⟩
  rw [e, List.length_map, List.take_length]
  rfl
/-- the middle loop -/
theorem p_mid (n len : Int) (chs : List (List Int)) (st : LSt) (hl : ∀ ch ∈ chs, ch.length ≤ 50) (hb : (chs.foldl (putCh n len) st).1.length < line ∧ (chs.foldl (putCh n len) st).2.length < line) (k : Nat) (h : List (List D)) (a0 a3 a6 a7 a8 : Option Sl) :
    ∃ b6 b7 b8, forR (Phi fs k) (.name 6) b_law_lengths_1 (chs.map chD) ⟨[a0, some (.val (.int n)), some (.dct (kvD st.2)), a3, some (.val (.int len)), some (.own (st.1.map chD)), a6, a7, a8], h⟩ =
      .next ⟨[a0, some (.val (.int n)), some (.dct (kvD (chs.foldl (putCh n len) st).2)), a3, some (.val (.int len)), some (.own ((chs.foldl (putCh n len) st).1.map chD)), b6, b7, b8], h⟩ := by
  obtain ⟨s', e, b6, b7, b8, rfl⟩ := forR_all (Φ := Phi fs k) (t := .name 6) (b := b_law_lengths_1) (chs.map chD)
    (fun i s => ∃ b6 b7 b8, s = ⟨[a0, some (.val (.int n)), some (.dct (kvD ((chs.take i).foldl (putCh n len) st).2)), a3, some (.val (.int len)), some (.own (((chs.take i).foldl (putCh n len) st).1.map chD)), b6, b7, b8], h⟩) (fun i d s e hI => by
      obtain ⟨b6, b7, b8, rfl⟩ := hI
      rw [List.getElem?_map] at e
      cases hm : chs[i]? with
      | none => rw [hm] at e; cases e
      | some ch =>
      rw [hm] at e
      cases e
      have mt := mono_take (putCh n len) (mono_ch n len) chs st (i + 1)
      rw [fold_take _ _ _ _ _ hm] at mt ⊢
      generalize (chs.take i).foldl (putCh n len) st = st1 at *
      have cl := hl ch (List.mem_of_getElem? hm)
      obtain ⟨B8, lc⟩ : ∃ B8, lcR (Phi fs k) (.bin .add (.idx (.var 6) (.neg (.cst (.int 1)))) (.var 8)) (.name 8) .none (ch.map D.int) ⟨[a0, some (.val (.int n)), some (.dct (kvD st1.2)), a3, some (.val (.int len)), some (.own (st1.1.map chD)), some (.val (chD ch)), b7, b8], h⟩ =
          .ok (.own (ch.map fun o => .int (ch.getLast?.getD 0 + o))) ⟨[a0, some (.val (.int n)), some (.dct (kvD st1.2)), a3, some (.val (.int len)), some (.own (st1.1.map chD)), some (.val (chD ch)), b7, B8], h⟩ :=
        ⟨_, lcR_ints (fun o => .int (ch.getLast?.getD 0 + o)) ch _ h (by unfold line; omega) (fun o ho x => by
          have hl : (ch.map D.int).getLast? = some (.int (ch.getLast?.getD 0)) := by
            rw [getLast?_ints]
            cases z : ch.getLast? with
            | none => rw [List.getLast?_eq_none_iff] at z; subst z; cases ho
            | some l => rfl
          generalize ch.getLast?.getD 0 = l at *
          simp [turnL, wipeT, MT.ids, bindT, chD, hl])⟩
      obtain ⟨B7, inner⟩ := p_inner n len ch st1 cl ⟨Nat.lt_of_le_of_lt mt.1 hb.1, Nat.lt_of_le_of_lt mt.2 hb.2⟩ k h a0 a3 b7 B8
      have ss : ssetR (.lst (ch.map fun o => .int (ch.getLast?.getD 0 + o))) = fun s => .ok (.own ((sums ch).map D.int)) s := by
        funext s
        have e : (ch.map fun o => D.int (ch.getLast?.getD 0 + o)) = (ch.map fun o => ch.getLast?.getD 0 + o).map D.int := by rw [List.map_map]; rfl
        rw [e, ssetR_of (intsOf_map _) (by simp; omega)]
        rfl
      refine ⟨_, rfl, _, ?_, some (.val (chD ch)), B7, B8, rfl⟩
      have cd : chD ch = .tup (ch.map D.int) := rfl
      rw [cd] at lc inner ⊢
      generalize ch.map D.int = CH at *
      generalize (ch.map fun o => D.int (ch.getLast?.getD 0 + o)) = WW at *
      simp [b_law_lengths_1, lc, ss, inner])
    ⟨[a0, some (.val (.int n)), some (.dct (kvD st.2)), a3, some (.val (.int len)), some (.own (st.1.map chD)), a6, a7, a8], h⟩ ⟨a6, a7, a8, rfl⟩
  refine ⟨b6, b7, b8, ?_⟩
  rw [e, List.length_map, List.take_length]
end K48
namespace K48
open PySem PI
theorem level_bounds : (List.range 6).all (fun i => decide ((level 40 (2 + (i : Nat)) (levels 40 i)).1.length ≤ 10000) && decide ((level 40 (2 + (i : Nat)) (levels 40 i)).2.length ≤ 10000) && (levels 40 i).1.all fun ch => decide (ch.length ≤ 50)) = true := by decide +kernel
theorem p_lengths (k : Nat) (h : List (List D)) : Phi fs (k + 1) "_law_lengths" [.int 7, .int 40] h = .ok (.dct (kvD (levels 40 6).2)) h := by
  rw [Phi_run lk__law_lengths rfl]
  obtain ⟨s', e, x3, x5, x6, x7, x8, hx, x4, rfl⟩ := forR_all (Φ := Phi fs k) (t := .name 4) (b := b_law_lengths_0) (rangeD 2 6)
    (fun i s => ∃ x3 x5 x6 x7 x8, (x3 = some (.own ((levels 40 i).1.map chD)) ∨ x3 = some (.val (.lst ((levels 40 i).1.map chD)))) ∧ ∃ x4, s = ⟨[some (.val (.int 7)), some (.val (.int 40)), some (.dct (kvD (levels 40 i).2)), x3, x4, x5, x6, x7, x8], h⟩) (fun i d s hd hI => by
      obtain ⟨x3, x5, x6, x7, x8, hx, x4, rfl⟩ := hI
      obtain ⟨rfl, hi⟩ := range_get _ _ _ _ hd
      have lb := level_bounds
      rw [List.all_eq_true] at lb
      have lb := lb i (by simpa using hi)
      simp only [Bool.and_eq_true, decide_eq_true_eq, List.all_eq_true] at lb
      obtain ⟨⟨b1, b2⟩, b3⟩ := lb
      have le : (10000 : Nat) < line := by unfold line; omega
      have lv : levels 40 (i + 1) = level 40 (2 + (i : Nat)) (levels 40 i) := rfl
      rw [lv]
      have cast : (2 : Int) + (i : Nat) = 2 + (i : Int) := rfl
      obtain ⟨b6, b7, b8, mid⟩ := p_mid 40 (2 + (i : Int)) (levels 40 i).1 ([], (levels 40 i).2) b3 ⟨Nat.lt_of_le_of_lt b1 le, Nat.lt_of_le_of_lt b2 le⟩ k h (some (.val (.int 7))) (some (.val (.lst ((levels 40 i).1.map chD)))) x6 x7 x8
      have e1 : ((levels 40 i).1.foldl (putCh 40 (2 + (i : Int))) ([], (levels 40 i).2)) = level 40 (2 + (i : Int)) (levels 40 i) := rfl
      rw [e1] at mid
      dsimp only at mid
      rw [List.map_nil] at mid
      refine ⟨_, rfl, ⟨[some (.val (.int 7)), some (.val (.int 40)), some (.dct (kvD (level 40 (2 + (i : Int)) (levels 40 i)).2)), some (.val (.lst ((level 40 (2 + (i : Int)) (levels 40 i)).1.map chD))), some (.val (.int (2 + (i : Int)))), some (.val (.lst ((level 40 (2 + (i : Int)) (levels 40 i)).1.map chD))), b6, b7, b8], h⟩, ?_, _, _, _, _, _, .inr rfl, _, rfl⟩
      clear b1 b2 b3 e1 lv
      generalize level 40 (2 + (i : Int)) (levels 40 i) = L1 at *
      generalize (levels 40 i).1.map chD = C0 at *
      generalize kvD (levels 40 i).2 = K0 at *
      generalize kvD L1.2 = K1 at *
      generalize L1.1.map chD = C1 at *
      generalize (2 : Int) + (i : Int) = ln at *
      rcases hx with rfl | rfl
      · simp [b_law_lengths_0, mid]
      · simp [b_law_lengths_0, mid])
    ⟨[some (.val (.int 7)), some (.val (.int 40)), some (.dct (kvD (levels 40 0).2)), some (.own ((levels 40 0).1.map chD)), none, none, none, none, none], h⟩ ⟨_, _, _, _, _, .inl rfl, _, rfl⟩
  rw [range_len] at e
  have k0 : kvD (levels 40 0).2 = [(.inl 1, .int 1)] := rfl
  have c0 : (levels 40 0).1.map chD = [.tup [.int 1]] := rfl
  have s2 : smallI 2 = true := by decide
  have s8 : smallI 8 = true := by decide
  rw [k0, c0] at e
  generalize kvD (levels 40 6).2 = KV at *
  simp [f__law_lengths, TxtDef.def, startT, s2, s8, e]
end K48

namespace K48
open PySem PI
theorem lev6 : (levels 40 6).2 = [(1, 1), (2, 2), (3, 3), (4, 3), (5, 4), (6, 4), (8, 4), (7, 5), (10, 5), (9, 5), (12, 5), (16, 5), (11, 6), (14, 6), (13, 6), (15, 6), (20, 6), (18, 6), (24, 6), (17, 6), (32, 6), (22, 7), (21, 7), (28, 7), (19, 7), (26, 7), (23, 7), (25, 7), (30, 7), (40, 7), (27, 7), (36, 7), (34, 7), (33, 7)] := by decide +kernel
def lenI (f : List (Int × Int)) (m : Int) : Int := match f with
  | [] => 8
  | p :: r => if p.1 = m then p.2 else lenI r m
theorem kget_lenI (f : List (Int × Int)) (m : Int) : (kget (kvD f) (.inl m)).getD (.int 8) = .int (lenI f m) := by
  induction f with
  | nil => rfl
  | cons p f ih =>
    unfold kvD at ih ⊢
    rw [List.map_cons]
    unfold kget lenI
    by_cases e : p.1 = m
    · have e2 : (Sum.inl p.1 : L2.Key) = .inl m := by rw [e]
      rw [if_pos e2, if_pos e]; rfl
    · have e2 : ¬ (Sum.inl p.1 : L2.Key) = .inl m := fun z => e (Sum.inl.inj z)
      rw [if_neg e2, if_neg e, ih]
def lens : List (Int × Int) := [(1, 1), (2, 2), (3, 3), (4, 3), (5, 4), (6, 4), (8, 4), (7, 5), (10, 5), (9, 5), (12, 5), (16, 5), (11, 6), (14, 6), (13, 6), (15, 6), (20, 6), (18, 6), (24, 6), (17, 6), (32, 6), (22, 7), (21, 7), (28, 7), (19, 7), (26, 7), (23, 7), (25, 7), (30, 7), (40, 7), (27, 7), (36, 7), (34, 7), (33, 7)]
def okS (n : Nat) : Bool := match sh 5 n.log2 n with
  | some r => rightB n (r.reverse.map fun (a : Nat) => (a : Int)) && decide (r.length ≤ (dbl n).length) && (decide (40 < n) || decide ((r.length : Int) = lenI lens n)) && decide (r.length ≤ 20)
  | none => false
theorem okS_all : (List.range 100).all (fun n => okS (n + 1)) = true := by decide +kernel
/-! ### what is refused -/
theorem p_double_bad (n : Int) (hn : n < 1) (k : Nat) (h : List (List D)) : Phi fs (k + 1) "double_chain" [.int n] h = .exc 0 (.str "number") h := by
  rw [Phi_run lk_double_chain rfl]
  simp [f_double_chain, TxtDef.def, startT, hn, sd_number]
theorem p_short_bad (n : Int) (hn : n < 1) (k : Nat) (h : List (List D)) : Phi fs (k + 1) "short_chain" [.int n] h = .exc 0 (.str "number") h := by
  rw [Phi_run lk_short_chain rfl]
  simp [f_short_chain, TxtDef.def, startT, hn, sd_number]
theorem p_short_large (n : Int) (hn : 100 < n) (k : Nat) (h : List (List D)) : Phi fs (k + 1) "short_chain" [.int n] h = .exc 1 (.str "number") h := by
  rw [Phi_run lk_short_chain rfl]
  have c1 : ¬ n < 1 := by omega
  simp [f_short_chain, TxtDef.def, startT, hn, c1, sd_number]
theorem p_told_bad (way n : Int) (hn : n < 1) (k : Nat) (h : List (List D)) : Phi fs (k + 2) "_law_told" [.int way, .int n] h = .ok (.val (.tup [.int 1, .str "number"])) h := by
  rw [Phi_run lk__law_told rfl]
  have e1 := p_double_bad n hn k h
  have e2 := p_short_bad n hn k h
  by_cases c : way = 0
  · simp [f__law_told, TxtDef.def, startT, c, e1, noExc, Sl.calm, outExc]
  · simp [f__law_told, TxtDef.def, startT, c, e2, noExc, Sl.calm, outExc]
theorem p_told_large (n : Int) (hn : 100 < n) (k : Nat) (h : List (List D)) : Phi fs (k + 2) "_law_told" [.int 1, .int n] h = .ok (.val (.tup [.int 2, .str "number"])) h := by
  rw [Phi_run lk__law_told rfl]
  have e2 := p_short_large n hn k h
  simp [f__law_told, TxtDef.def, startT, e2, noExc, Sl.calm, outExc]
/-! ### claims spoilt -/
theorem PL_claim (n : Int) (ch : List Int) (hl : ch.length ≤ line) : PL 3 (.tup [.int n, .tup (ch.map D.int)]) := by
  refine ⟨by unfold line; simp, fun d hd => ?_⟩
  simp only [List.mem_cons, List.not_mem_nil, or_false] at hd
  rcases hd with rfl | rfl
  · exact trivial
  · exact PL_ints 1 ch hl
theorem p_spoilt (x : Str) (n : Int) (ch : List Int) (hl : ch.length ≤ 10000) (k : Nat) (p : List D) (hp : PoolOk p) :
    ∃ n' ch' p', Phi fs (k + 10) "_law_spoilt" [.ref 0, claimD x n ch] [p] = .ok (.val (claimD x n' ch')) [p'] ∧ PoolOk p' ∧ ch'.length ≤ ch.length + 1 := by
  obtain ⟨at', p1, e1, hp1, a0, a1⟩ := draw1 (k := k + 8) lk__law_draw hp (size := (ch.length : Int) + 1) (by omega) (by
    have h2 : ((ch.length : Int) + 1).natAbs < 2 ^ 14 := by omega
    by_cases z : ((ch.length : Int) + 1).natAbs = 0
    · rw [z]; decide
    · have := (Nat.log2_lt z).mpr h2; omega)
  obtain ⟨way, p2, e2, hp2, w0, w1⟩ := draw1 (k := k + 8) lk__law_draw hp1 (size := 5) (by decide) (by decide)
  obtain ⟨at', rfl⟩ := natN (a := at') a0
  rw [Phi_run lk__law_spoilt rfl]
  obtain ⟨m, hm⟩ : ∃ m, (0 :: ch).max? = some m := by
    cases z : (0 :: ch).max? with
    | none => rw [List.max?_eq_none_iff] at z; cases z
    | some m => exact ⟨m, rfl⟩
  have mx : bltD .max1 [.tup (.int 0 :: ch.map D.int)] = some (.val (.int m)) := by
    have e : (D.int 0 :: ch.map D.int) = (0 :: ch).map D.int := rfl
    rw [e]; exact blt_max1T (intsOf_map _) hm
  have ln : (10003 : Nat) < line := by unfold line; omega
  have A : ∀ a b : List Int, a.length + b.length ≤ 10002 → binD .add (.tup (a.map D.int)) (.tup (b.map D.int)) = some (.val (.tup ((a ++ b).map D.int))) := fun a b hab => by
    rw [bin_addT (by rw [List.length_map, List.length_map]; omega), List.map_append]
  obtain ⟨C, hC⟩ : ∃ C, C = ch.map D.int := ⟨_, rfl⟩
  have t1 : cutD C none (some (at' : Int)) = (ch.take at').map D.int := by rw [cut_take, hC, List.map_take]
  have t2 : cutD C (some ((at' : Int) + 1)) none = (ch.drop (at' + 1)).map D.int := by rw [cut_drop1, hC, List.map_drop]
  have t3 : cutD C (some (at' : Int)) (some ((at' : Int) + 1)) = ((ch.drop at').take (at' + 1 - at')).map D.int := by rw [cut_mid1, hC, List.map_take, List.map_drop]
  have t4 : cutD C (some (at' : Int)) none = (ch.drop at').map D.int := by rw [cut_drop, hC, List.map_drop]
  have a1' := A (ch.take at') (ch.drop (at' + 1)) (by simp; omega)
  have a2' := A (ch.take at') ((ch.drop at').take (at' + 1 - at')) (by simp; omega)
  have a3' := A (ch.take at' ++ (ch.drop at').take (at' + 1 - at')) (ch.drop at') (by simp; omega)
  have a4' := A ch [2 * m] (by simp; omega)
  have a5' : binD .add (.tup [.int 0]) (.tup C) = some (.val (.tup (.int 0 :: C))) := by rw [bin_addT (by rw [hC]; simp; omega)]; rfl
  rw [← hC] at a4' mx
  have rv : C.reverse = ch.reverse.map D.int := by rw [hC, List.map_reverse]
  have m2 : binD .mul (.int 2) (.int m) = some (.val (.int (2 * m))) := mulL (by decide)
  have lC : (C.length : Int) + 1 = (ch.length : Int) + 1 := by rw [hC]; simp
  obtain ⟨r0, hr0⟩ : ∃ r, r = ch.take at' ++ ch.drop (at' + 1) := ⟨_, rfl⟩
  obtain ⟨r1, hr1⟩ : ∃ r, r = ch.take at' ++ (ch.drop at').take (at' + 1 - at') ++ ch.drop at' := ⟨_, rfl⟩
  obtain ⟨q1, hq1⟩ : ∃ r, r = ch.take at' ++ (ch.drop at').take (at' + 1 - at') := ⟨_, rfl⟩
  have l0 : r0.length ≤ ch.length + 1 := by rw [hr0]; simp; omega
  have l1 : r1.length ≤ ch.length + 1 := by rw [hr1]; simp; omega
  rw [← hr1] at a3'
  rw [← hq1] at a2' a3'
  rw [← hr0] at a1'
  clear hr0 hr1 hq1 A hm
  obtain ⟨d', p3, e3, hp3, hs, hP⟩ := touched0 lk__law_draw lk__law_touched 3 (.tup [.int n, .tup (ch.map D.int)]) (PL_claim n ch (by omega)) (k + 7) p2 (by omega) hp2
  obtain ⟨bs, rfl, hs⟩ := shp_tup hs
  obtain ⟨x1, y1, rfl, hx, hs⟩ := shps_cons hs
  obtain ⟨x2, y2, rfl, hx2, hs⟩ := shps_cons hs
  rw [shps_nil hs] at e3
  obtain ⟨n', rfl⟩ := shp_int hx
  obtain ⟨ms, rfl, hms⟩ := shp_ints hx2
  have lst : binD .add (.tup [.str x]) (.tup [.int n', .tup (ms.map D.int)]) = some (.val (.tup [.str x, .int n', .tup (ms.map D.int)])) := by rw [bin_addT (by unfold line; simp)]; rfl
  have lst2 : ∀ r : List Int, binD .add (.tup [.str x, .int n]) (.tup [.tup (r.map D.int)]) = some (.val (.tup [.str x, .int n, .tup (r.map D.int)])) := fun r => by rw [bin_addT (by unfold line; simp)]; rfl
  unfold claimD
  rw [← hC] at e3 ⊢
  have e1 : Phi fs (k + 9) "_law_draw" [.ref 0, .int ((C.length : Int) + 1)] [p] = .ok (.val (.int (at' : Int))) [p1] := by rw [lC]; exact e1
  clear hP hs hx hx2 lC
  obtain ⟨T1, hT1⟩ : ∃ T, T = (ch.take at').map D.int := ⟨_, rfl⟩
  obtain ⟨T2, hT2⟩ : ∃ T, T = (ch.drop (at' + 1)).map D.int := ⟨_, rfl⟩
  obtain ⟨T3, hT3⟩ : ∃ T, T = ((ch.drop at').take (at' + 1 - at')).map D.int := ⟨_, rfl⟩
  obtain ⟨T4, hT4⟩ : ∃ T, T = (ch.drop at').map D.int := ⟨_, rfl⟩
  obtain ⟨R0, hR0⟩ : ∃ T, T = r0.map D.int := ⟨_, rfl⟩
  obtain ⟨R1, hR1⟩ : ∃ T, T = r1.map D.int := ⟨_, rfl⟩
  obtain ⟨R2, hR2⟩ : ∃ T, T = ch.reverse.map D.int := ⟨_, rfl⟩
  obtain ⟨R3, hR3⟩ : ∃ T, T = (ch ++ [2 * m]).map D.int := ⟨_, rfl⟩
  obtain ⟨Q1, hQ1⟩ : ∃ T, T = q1.map D.int := ⟨_, rfl⟩
  have i2m : [2 * m].map D.int = [D.int (2 * m)] := rfl
  rw [i2m, ← hR3] at a4'
  rw [← hT1] at t1 a1' a2'
  rw [← hT2] at t2 a1'
  rw [← hT3] at t3 a2'
  rw [← hT4] at t4 a3'
  rw [← hR0] at a1'
  rw [← hQ1] at a2' a3'
  rw [← hR1] at a3'
  rw [← hR2] at rv
  have b0 := lst2 r0
  have b1 := lst2 r1
  have b2 := lst2 ch.reverse
  have b3 := lst2 (ch ++ [2 * m])
  rw [← hR0] at b0
  rw [← hR1] at b1
  rw [← hR2] at b2
  rw [← hR3] at b3
  have run : ∀ d, atD [.tup R0, .tup R1, .tup R2, .tup R3] way = some d → ∀ q, binD .add (.tup [.str x, .int n]) (.tup [d]) = some (.val q) → way < 4 →
      endF 1 (exs (Phi fs (k + 9)) f__law_spoilt.def.body ⟨startT f__law_spoilt.def.n [.ref 0, .tup [.str x, .int n, .tup C]], [p]⟩) = .ok (.val q) [p2] := fun d hd q hq hw => by
    clear hT1 hT2 hT3 hT4 hR0 hR1 hR2 hR3 hQ1 b0 b1 b2 b3 lst lst2
    simp [f__law_spoilt, TxtDef.def, startT, e1, e2, t1, t2, t3, t4, a1', a2', a3', a4', a5', rv, mx, m2, hw, hd, hq]
  rcases (by omega : way = 0 ∨ way = 1 ∨ way = 2 ∨ way = 3 ∨ way = 4) with rfl | rfl | rfl | rfl | rfl
  · exact ⟨n, r0, p2, by rw [← hR0]; exact run _ (by simp) _ b0 (by omega), hp2, l0⟩
  · exact ⟨n, r1, p2, by rw [← hR1]; exact run _ (by simp) _ b1 (by omega), hp2, l1⟩
  · exact ⟨n, ch.reverse, p2, by rw [← hR2]; exact run _ (by simp) _ b2 (by omega), hp2, by simp⟩
  · exact ⟨n, ch ++ [2 * m], p2, by rw [← hR3]; exact run _ (by simp) _ b3 (by omega), hp2, by simp⟩
  · refine ⟨n', ms, p3, ?_, hp3, by omega⟩
    obtain ⟨MS, hMS⟩ : ∃ T, T = ms.map D.int := ⟨_, rfl⟩
    rw [← hMS] at e3 lst ⊢
    clear hT1 hT2 hT3 hT4 hR0 hR1 hR2 hR3 hQ1 b0 b1 b2 b3 lst2 run hMS
    simp [f__law_spoilt, TxtDef.def, startT, e1, e2, e3, t1, t2, t3, t4, a1', a2', a3', a4', a5', rv, mx, m2, lst]
end K48

namespace K48
open PySem PI
theorem SD_claim (n : Int) (ch : List Int) (hl : ch.length ≤ line) : SD 3 (claimD "adding" n ch) := by
  refine ⟨by unfold line; simp, fun d hd => ?_⟩
  simp only [List.mem_cons, List.not_mem_nil, or_false] at hd
  rcases hd with rfl | rfl | rfl
  · exact canLay_ofS "adding"
  · exact trivial
  · exact SD_ints 1 ch hl
theorem PL_claim3 (n : Int) (ch : List Int) (hl : ch.length ≤ line) : PL 3 (claimD "adding" n ch) := by
  refine ⟨by unfold line; simp, fun d hd => ?_⟩
  simp only [List.mem_cons, List.not_mem_nil, or_false] at hd
  rcases hd with rfl | rfl | rfl
  · exact trivial
  · exact trivial
  · exact PL_ints 1 ch hl
/-- a claim, spoilt so often as `again` tells, is judged alike -/
theorem again_run (m : Nat) (cn : Int) (cc : List Int) (hcc : cc.length ≤ 9000) (a : Int) (ha0 : 0 ≤ a) (ha1 : a < 4) (x0 x2 x3 x4 x5 x6 x7 x10 x11 : Option Sl) (p : List D) (hp : PoolOk p) :
    ∃ y10 y11 p', PoolOk p' ∧ exs (Phi fs (m + 40)) blaw_2_0 ⟨[x0, some (.val (.ref 0)), x2, x3, x4, x5, x6, x7, some (.val (claimD "adding" cn cc)), some (.val (.int a)), x10, x11], [p]⟩ =
      .next ⟨[x0, some (.val (.ref 0)), x2, x3, x4, x5, x6, x7, some (.val (claimD "adding" cn cc)), some (.val (.int a)), y10, y11], [p']⟩ := by
  obtain ⟨d, hd, hc⟩ := pick4 (a := .int 0) (b := .int 1) (c := .int 1) (d := .int 2) ha0 ha1
  obtain ⟨t, rfl, t2⟩ : ∃ t : Nat, d = .int (t : Int) ∧ t ≤ 2 := by
    rcases hc with rfl | rfl | rfl | rfl
    · exact ⟨0, rfl, by omega⟩
    · exact ⟨1, rfl, by omega⟩
    · exact ⟨1, rfl, by omega⟩
    · exact ⟨2, rfl, by omega⟩
  obtain ⟨s', e, n', ch', y11, p', hp', hl', rfl⟩ := forR_all (Φ := Phi fs (m + 40)) (t := .name 11) (b := blaw_3_0) (rangeD 0 t)
    (fun i s => ∃ n' ch' y11 p', PoolOk p' ∧ ch'.length ≤ cc.length + i ∧ s = ⟨[x0, some (.val (.ref 0)), x2, x3, x4, x5, x6, x7, some (.val (claimD "adding" cn cc)), some (.val (.int a)), some (.val (claimD "adding" n' ch')), y11], [p']⟩) (fun i d s e hI => by
      obtain ⟨n', ch', y11, p', hp', hl', rfl⟩ := hI
      obtain ⟨rfl, hi⟩ := range_get _ _ _ _ e
      obtain ⟨n2, ch2, p2, e2, hp2, hl2⟩ := p_spoilt "adding" n' ch' (by omega) (m + 30) p' hp'
      have e2 : Phi fs (m + 40) "_law_spoilt" [.ref 0, claimD "adding" n' ch'] [p'] = .ok (.val (claimD "adding" n2 ch2)) [p2] := e2
      refine ⟨_, rfl, ⟨[x0, some (.val (.ref 0)), x2, x3, x4, x5, x6, x7, some (.val (claimD "adding" cn cc)), some (.val (.int a)), some (.val (claimD "adding" n2 ch2)), some (.val (.int (0 + (i : Int))))], [p2]⟩, ?_, n2, ch2, _, p2, hp2, by omega, rfl⟩
      generalize claimD "adding" n2 ch2 = C2 at *
      generalize claimD "adding" n' ch' = C1 at *
      simp [blaw_3_0, e2])
    ⟨[x0, some (.val (.ref 0)), x2, x3, x4, x5, x6, x7, some (.val (claimD "adding" cn cc)), some (.val (.int a)), some (.val (claimD "adding" cn cc)), x11], [p]⟩ ⟨cn, cc, _, p, hp, by omega, rfl⟩
  rw [range_len] at hl'
  have ln : (9100 : Nat) < line := by unfold line; omega
  have r1 := p_adding_right "adding" n' ch' (by omega) (m + 39) [p']
  have r2 := p_law_right "adding" n' ch' (by omega) (m + 39) [p']
  have sr := same_refl lk__law_same [p'] 0 (.bl (rightB n' ch')) trivial (m + 39) (by omega)
  have sm : smallI (t : Int) = true := by simp only [smallI, Bool.and_eq_true, decide_eq_true_eq]; omega
  refine ⟨some (.val (claimD "adding" n' ch')), y11, p', hp', ?_⟩
  generalize rightB n' ch' = bb at *
  generalize claimD "adding" n' ch' = C2 at *
  generalize claimD "adding" cn cc = C1 at *
  simp [blaw_2_0, blaw_2_1, blaw_2_2, hd, sm, e, r1, r2, sr]
theorem claim_run (m : Nat) (cn : Int) (cc : List Int) (hcc : cc.length ≤ 9000) (x0 x2 x3 x4 x5 x6 x7 x9 x10 x11 : Option Sl) (p : List D) (hp : PoolOk p) :
    ∃ y9 y10 y11 p', PoolOk p' ∧ exs (Phi fs (m + 40)) blaw_1_0 ⟨[x0, some (.val (.ref 0)), x2, x3, x4, x5, x6, x7, some (.val (claimD "adding" cn cc)), x9, x10, x11], [p]⟩ =
      .next ⟨[x0, some (.val (.ref 0)), x2, x3, x4, x5, x6, x7, some (.val (claimD "adding" cn cc)), y9, y10, y11], [p']⟩ := by
  obtain ⟨s', e, y9, y10, y11, p', hp', rfl⟩ := forR_all (Φ := Phi fs (m + 40)) (t := .name 9) (b := blaw_2_0) (rangeD 0 4)
    (fun i s => ∃ y9 y10 y11 p', PoolOk p' ∧ s = ⟨[x0, some (.val (.ref 0)), x2, x3, x4, x5, x6, x7, some (.val (claimD "adding" cn cc)), y9, y10, y11], [p']⟩) (fun i d s e hI => by
      obtain ⟨y9, y10, y11, p', hp', rfl⟩ := hI
      obtain ⟨rfl, hi⟩ := range_get _ _ _ _ e
      obtain ⟨z10, z11, p2, hp2, e2⟩ := again_run m cn cc hcc (0 + (i : Int)) (by omega) (by omega) x0 x2 x3 x4 x5 x6 x7 y10 y11 p' hp'
      exact ⟨_, rfl, _, e2, _, _, _, _, hp2, rfl⟩)
    ⟨[x0, some (.val (.ref 0)), x2, x3, x4, x5, x6, x7, some (.val (claimD "adding" cn cc)), x9, x10, x11], [p]⟩ ⟨_, _, _, p, hp, rfl⟩
  have sm : smallI 4 = true := by decide
  refine ⟨y9, y10, y11, p', hp', ?_⟩
  generalize claimD "adding" cn cc = C1 at *
  simp [blaw_1_0, sm, e]
theorem log_bd {n : Nat} (h : n ≤ 10 ^ 42) : n.log2 < 200 := by
  by_cases z : n = 0
  · subst z; decide
  · have h2 : (10 : Nat) ^ 42 < 2 ^ 200 := by decide
    exact (Nat.log2_lt z).mpr (Nat.lt_of_le_of_lt h h2)
/-- one turn -/
theorem turn (m : Nat) (x0 x3 x4 x5 x6 x7 x8 x9 x10 x11 : Option Sl) (p : List D) (hp : PoolOk p) :
    ∃ (N : Nat) (y6 y7 y8 y9 y10 y11 : Option Sl) (p' : List D), 1 ≤ N ∧ PoolOk p' ∧ exs (Phi fs (m + 40)) blaw_0_0 ⟨[x0, some (.val (.ref 0)), some (.dct (kvD lens)), x3, x4, x5, x6, x7, x8, x9, x10, x11], [p]⟩ =
      .next ⟨[x0, some (.val (.ref 0)), some (.dct (kvD lens)), x3, x4, some (.val (.int (N : Int))), y6, y7, y8, y9, y10, y11], [p']⟩ := by
  obtain ⟨u1, p1, e1, hp1, u10, u11⟩ := draw1 (k := m + 39) lk__law_draw hp (size := 40) (by decide) (by decide)
  obtain ⟨u2, p2, e2, hp2, u20, u21⟩ := some1 (k := m + 38) lk__law_draw lk__law_some hp1
  obtain ⟨u3, p3, e3, hp3, u30, u31⟩ := huge1 (k := m + 37) lk__law_draw lk__law_sign lk__law_huge hp2
  obtain ⟨u4, p4, e4, hp4, u40, u41⟩ := draw1 (k := m + 39) lk__law_draw hp3 (size := 3) (by decide) (by decide)
  obtain ⟨d5, at5, hd5⟩ := pick3 (a := .int u1) (b := .int u2) (c := .int (if u3 < 0 then -u3 else u3)) u40 u41
  obtain ⟨N, hN, N1, N2⟩ : ∃ N : Nat, d5 = .int ((N : Int) - 1) ∧ 1 ≤ N ∧ N ≤ 10 ^ 42 := by
    have big : (10000000000 : Int) ≤ 10 ^ 41 := by decide
    have big2 : (10 : Int) ^ 41 + 1 ≤ 10 ^ 42 := by decide
    have cst : ((10 ^ 42 : Nat) : Int) = (10 : Int) ^ 42 := by decide
    have go : ∀ w : Int, 0 ≤ w → w ≤ 10 ^ 41 → ∃ N : Nat, D.int w = .int ((N : Int) - 1) ∧ 1 ≤ N ∧ N ≤ 10 ^ 42 := fun w w0 w1 => by
      refine ⟨(w + 1).toNat, by rw [show (((w + 1).toNat : Int) - 1) = w by omega], by omega, ?_⟩
      have : ((w + 1).toNat : Int) ≤ ((10 ^ 42 : Nat) : Int) := by rw [cst]; generalize (10 : Int) ^ 42 = A at *; generalize (10 : Int) ^ 41 = B at *; omega
      exact_mod_cast this
    rcases hd5 with rfl | rfl | rfl
    · exact go _ u10 (by generalize (10 : Int) ^ 41 = B at *; omega)
    · exact go _ u20 (by generalize (10 : Int) ^ 41 = B at *; omega)
    · exact go _ (by split <;> omega) (by generalize (10 : Int) ^ 41 = B at *; split <;> omega)
  subst hN
  have N3 : (1 : Int) + ((N : Int) - 1) = N := by omega
  have lgN := log_bd N2
  have dlen : (dbl N).length ≤ 9000 := by
    have := pre_len N N.log2 N.log2
    unfold dbl; omega
  have ln : (9000 : Nat) < line := by unfold line; omega
  have r1 := p_double_chain N N1 (by omega) (m + 38) [p4]
  have r2 := p_law_double N N1 lgN (m + 39) [p4]
  have s1 := same_refl lk__law_same [p4] 3 (claimD "adding" N (dbl N)) (SD_claim _ _ (by omega)) (m + 39) (by omega)
  obtain ⟨u6, p6, e6, hp6, u60, u61⟩ := draw1 (k := m + 39) lk__law_draw hp4 (size := 4) (by decide) (by decide)
  obtain ⟨d7, at7, hd7⟩ := pick4 (a := .int 40) (b := .int 40) (c := .int 40) (d := .int 100) u60 u61
  obtain ⟨sz, rfl, sz1, sz2⟩ : ∃ sz : Int, d7 = .int sz ∧ 1 ≤ sz ∧ sz ≤ 100 := by
    rcases hd7 with rfl | rfl | rfl | rfl
    · exact ⟨40, rfl, by omega, by omega⟩
    · exact ⟨40, rfl, by omega, by omega⟩
    · exact ⟨40, rfl, by omega, by omega⟩
    · exact ⟨100, rfl, by omega, by omega⟩
  obtain ⟨u8, p8, e8, hp8, u80, u81⟩ := draw1 (k := m + 39) lk__law_draw hp6 (size := sz) (by omega) (by
    have h2 : sz.natAbs < 2 ^ 14 := by omega
    by_cases z : sz.natAbs = 0
    · rw [z]; decide
    · have := (Nat.log2_lt z).mpr h2; omega)
  obtain ⟨u8, rfl⟩ := natN (a := u8) u80
  obtain ⟨S, hS⟩ : ∃ S, S = u8 + 1 := ⟨_, rfl⟩
  have S3 : (1 : Int) + (u8 : Int) = (S : Int) := by omega
  have ok := okS_all
  rw [List.all_eq_true] at ok
  have ok := ok u8 (by simp; omega)
  rw [← hS] at ok
  unfold okS at ok
  cases hq : sh 5 S.log2 S with
  | none => rw [hq] at ok; cases ok
  | some q =>
  rw [hq] at ok
  simp only [Bool.and_eq_true, Bool.or_eq_true, decide_eq_true_eq] at ok
  obtain ⟨⟨⟨o1, o2⟩, o3⟩, o4⟩ := ok
  have r3 := p_short_chain S (by omega) (by omega) q hq (m + 10) [p8]
  have r3 : Phi fs (m + 40) "short_chain" [.int (S : Int)] [p8] = .ok (.val (claimD "adding" S (q.reverse.map fun (a : Nat) => (a : Int)))) [p8] := r3
  obtain ⟨Q, hQ⟩ : ∃ Q : List Int, Q = q.reverse.map fun (a : Nat) => (a : Int) := ⟨_, rfl⟩
  have lQ : Q.length = q.length := by rw [hQ]; simp
  rw [← hQ] at r3 o1
  have r4 := plain1 lk__law_plain [p8] 3 (claimD "adding" S Q) (PL_claim3 _ _ (by omega)) (m + 39) (by omega)
  have r5 := p_law_right "adding" S Q (by omega) (m + 39) [p8]
  rw [o1] at r5
  have lgS : S.log2 < 200 := by
    have := (Nat.log2_lt (by omega : S ≠ 0)).mpr (by omega : S < 2 ^ 7)
    omega
  have r6 := p_law_double S (by omega) lgS (m + 39) [p8]
  have r6' : ((Q.map D.int).length : Int) = (Q.length : Int) := by simp
  have r7' : (((dbl S).map D.int).length : Int) = ((dbl S).length : Int) := by simp
  have r8 := kget_lenI lens S
  have c1 : ¬ ((dbl S).length : Int) < (Q.length : Int) := by omega
  have r9 := p_law_double N N1 lgN (m + 39) [p8]
  obtain ⟨y9, y10, y11, p9, hp9, run1⟩ := claim_run m S Q (by omega) x0 (some (.dct (kvD lens))) x3 x4 (some (.val (.int (N : Int)))) (some (.val (.int (S : Int)))) (some (.val (claimD "adding" S Q))) x9 x10 x11 p8 hp8
  obtain ⟨z9, z10, z11, p10, hp10, run2⟩ := claim_run m N (dbl N) dlen x0 (some (.dct (kvD lens))) x3 x4 (some (.val (.int (N : Int)))) (some (.val (.int (S : Int)))) (some (.val (claimD "adding" S Q))) y9 y10 y11 p9 hp9
  have loop : forR (Phi fs (m + 40)) (.name 8) blaw_1_0 [claimD "adding" S Q, claimD "adding" N (dbl N)] ⟨[x0, some (.val (.ref 0)), some (.dct (kvD lens)), x3, x4, some (.val (.int (N : Int))), some (.val (.int (S : Int))), some (.val (claimD "adding" S Q)), x8, x9, x10, x11], [p8]⟩ =
      .next ⟨[x0, some (.val (.ref 0)), some (.dct (kvD lens)), x3, x4, some (.val (.int (N : Int))), some (.val (.int (S : Int))), some (.val (claimD "adding" S Q)), some (.val (claimD "adding" N (dbl N))), z9, z10, z11], [p10]⟩ := by
    unfold forR forGo
    dsimp only [bindT, List.set_cons_succ, List.set_cons_zero]
    rw [run1]
    dsimp only
    unfold forGo
    dsimp only [bindT, List.set_cons_succ, List.set_cons_zero]
    rw [run2]
    rfl
  refine ⟨N, some (.val (.int (S : Int))), some (.val (claimD "adding" S Q)), some (.val (claimD "adding" N (dbl N))), z9, z10, z11, p10, N1, hp10, ?_⟩
  have cD : ∀ (n : Int) (ch : List Int), claimD "adding" n ch = .tup [.str "adding", .int n, .tup (ch.map D.int)] := fun _ _ => rfl
  have o3' : (40 : Int) < S ∨ (Q.length : Int) = lenI lens S := by
    rcases o3 with o3 | o3
    · left; omega
    · right; omega
  clear run1 run2 o1 o2 o3 o4 hq ok hQ dlen N2 hd5 hd7 lgS lgN
  simp only [cD] at r1 r3 r4 r5 s1 loop ⊢
  generalize Q.map D.int = QD at *
  generalize hDS : (dbl S).map D.int = DS at *
  generalize hDN : (dbl N).map D.int = DN at *
  generalize kvD lens = KV at *
  generalize lenI lens S = LS at *
  have c3 : ¬ (DS.length : Int) < (QD.length : Int) := by rw [r6', r7']; exact c1
  by_cases c4 : (S : Int) ≤ 40
  · have c5 : (QD.length : Int) = LS := by rcases o3' with o | o <;> omega
    rw [c5] at c3
    clear r6' r7' c1 o3' cD
    simp [blaw_0_0, blaw_0_1, blaw_0_2, blaw_0_3, blaw_0_4, blaw_0_5, blaw_0_6, e1, e2, e3, e4, at5, N3, r1, r2, s1, e6, at7, e8, S3, r3, r4, r5, r6, r8, r9, isTy, c3, c4, c5, loop]
  · clear r6' r7' c1 o3' cD
    simp [blaw_0_0, blaw_0_1, blaw_0_2, blaw_0_3, blaw_0_4, blaw_0_5, blaw_0_6, e1, e2, e3, e4, at5, N3, r1, r2, s1, e6, at7, e8, S3, r3, r4, r5, r6, r8, r9, isTy, c3, c4, loop]
theorem law_runs (m : Nat) (p : List D) (hp : PoolOk p) : ∃ s', exs (Phi fs (m + 40)) f_law.body ⟨(List.replicate 12 none).set 1 (some (.val (.ref 0))), [p]⟩ = .ret (.val (.bl true)) s' := by
  have e0 : (List.replicate 12 (none : Option Sl)).set 1 (some (.val (.ref 0))) = [none, some (.val (.ref 0)), none, none, none, none, none, none, none, none, none, none] := by rfl
  rw [e0]
  have r0 := p_lengths (m + 39) [p]
  rw [lev6] at r0
  have r0 : Phi fs (m + 40) "_law_lengths" [.int 7, .int 40] [p] = .ok (.dct (kvD lens)) [p] := r0
  obtain ⟨s', e, x3, x5, hx5, x6, x7, x8, x9, x10, x11, p', hp', rfl⟩ := forR_all (Φ := Phi fs (m + 40)) (t := .name 3) (b := blaw_0_0) (rangeD 0 4)
    (fun i s => ∃ x3 x5, (i = 0 ∨ ∃ N : Nat, 1 ≤ N ∧ x5 = some (.val (.int (N : Int)))) ∧ ∃ x6 x7 x8 x9 x10 x11 p', PoolOk p' ∧ s = ⟨[none, some (.val (.ref 0)), some (.dct (kvD lens)), x3, none, x5, x6, x7, x8, x9, x10, x11], [p']⟩) (fun i d s e hI => by
      obtain ⟨x3, x5, hx5, x6, x7, x8, x9, x10, x11, p', hp', rfl⟩ := hI
      obtain ⟨N, y6, y7, y8, y9, y10, y11, p2, N1, hp2, e2⟩ := turn m none (some (.val d)) none x5 x6 x7 x8 x9 x10 x11 p' hp'
      exact ⟨_, rfl, _, e2, _, _, .inr ⟨N, N1, rfl⟩, _, _, _, _, _, _, p2, hp2, rfl⟩)
    ⟨[none, some (.val (.ref 0)), some (.dct (kvD lens)), none, none, none, none, none, none, none, none, none], [p]⟩ ⟨none, none, .inl rfl, none, none, none, none, none, none, p, hp, rfl⟩
  rw [range_len] at hx5
  obtain ⟨N, N1, rfl⟩ : ∃ N : Nat, 1 ≤ N ∧ x5 = some (.val (.int (N : Int))) := by
    rcases hx5 with z | z
    · cases z
    · exact z
  have sm : smallI 4 = true := by decide
  obtain ⟨w, p1, e1, hp1, w0, w1⟩ := draw1 (k := m + 39) lk__law_draw hp' (size := 2) (by decide) (by decide)
  have t1 := p_told_bad w 0 (by omega) (m + 38) [p1]
  have t2 := p_told_bad w (0 - (N : Int)) (by omega) (m + 38) [p1]
  have t3 := p_told_large (100 + (N : Int)) (by omega) (m + 38) [p1]
  have sr := same_refl lk__law_same [p1] 3 (.lst [.tup [.int 1, .str "number"], .tup [.int 1, .str "number"], .tup [.int 2, .str "number"]]) (by simp [SD, line]) (m + 39) (by omega)
  refine ⟨⟨[none, some (.val (.ref 0)), some (.dct (kvD lens)), x3, some (.val (.int w)), some (.val (.int (N : Int))), x6, x7, x8, x9, x10, x11], [p1]⟩, ?_⟩
  show exs (Phi fs (m + 40)) t_law_0 _ = _
  generalize kvD lens = KV at *
  generalize (N : Int) = NI at *
  have t2 : Phi fs (m + 40) "_law_told" [.int w, .int (0 - NI)] [p1] = .ok (.val (.tup [.int 1, .str "number"])) [p1] := t2
  rw [show (0 : Int) - NI = -NI by omega] at t2
  simp [t_law_0, t_law_1, t_law_2, t_law_3, r0, sm, e, e1, t1, t2, t3, sr]
end K48


namespace PI
open PySem L2
theorem pool_begin (ns : List Int) : PoolOk [.lst (ns.map D.int), .int 0, .int 0, .int 1, .int 0, .int 0] := ⟨ns, 0, 0, 1, 0, rfl, by omega⟩
end PI
namespace K48
open PySem PI
theorem pure_law : ∀ ns : List Int, ns.length ≤ 63 → ∃ s', exs (Phi (ts.map TxtDef.def) (98 + 1)) f_law.body (lawS f_law 1 ns) = .ret (.val (.bl true)) s' := fun ns _ =>
  law_runs 59 (poolD ns) (pool_begin ns)
end K48

namespace K48
open PySem PySem.Spec PyProof.Rows L2 PI
set_option maxHeartbeats 0
theorem ok_all : ∀ t ∈ ts, t.ok T = true := by decide +kernel
theorem ok_law : lawOk T f_law 1 = true := by decide +kernel
theorem ok_pool : poolOk (top 13) = true := by decide +kernel
theorem all_mk {w : World} {K : PySem.W.Frag} {h : Heap} {mg : Str → Option Value} {fa : Addr} (X : K.In h) (G : h.Ns mainGlobals mg) (hfa : mg "law" = some (.ref fa))
    {f0 : Addr} {od0 an0 : Option Addr} {sl0 : Array (Option Value)} {oc0 kV0 dc0 pm0 cd0 ct0 : Value}
    {f1 : Addr} {od1 an1 : Option Addr} {sl1 : Array (Option Value)} {oc1 kV1 dc1 pm1 cd1 ct1 : Value}
    {f2 : Addr} {od2 an2 : Option Addr} {sl2 : Array (Option Value)} {oc2 kV2 dc2 pm2 cd2 ct2 : Value}
    {f3 : Addr} {od3 an3 : Option Addr} {sl3 : Array (Option Value)} {oc3 kV3 dc3 pm3 cd3 ct3 : Value}
    {f4 : Addr} {od4 an4 : Option Addr} {sl4 : Array (Option Value)} {oc4 kV4 dc4 pm4 cd4 ct4 : Value}
    {f5 : Addr} {od5 an5 : Option Addr} {sl5 : Array (Option Value)} {oc5 kV5 dc5 pm5 cd5 ct5 : Value}
    {f6 : Addr} {od6 an6 : Option Addr} {sl6 : Array (Option Value)} {oc6 kV6 dc6 pm6 cd6 ct6 : Value}
    {f7 : Addr} {od7 an7 : Option Addr} {sl7 : Array (Option Value)} {oc7 kV7 dc7 pm7 cd7 ct7 : Value}
    {f8 : Addr} {od8 an8 : Option Addr} {sl8 : Array (Option Value)} {oc8 kV8 dc8 pm8 cd8 ct8 : Value}
    {f9 : Addr} {od9 an9 : Option Addr} {sl9 : Array (Option Value)} {oc9 kV9 dc9 pm9 cd9 ct9 : Value}
    {f10 : Addr} {od10 an10 : Option Addr} {sl10 : Array (Option Value)} {oc10 kV10 dc10 pm10 cd10 ct10 : Value}
    {f11 : Addr} {od11 an11 : Option Addr} {sl11 : Array (Option Value)} {oc11 kV11 dc11 pm11 cd11 ct11 : Value}
    {f12 : Addr} {od12 an12 : Option Addr} {sl12 : Array (Option Value)} {oc12 kV12 dc12 pm12 cd12 ct12 : Value}
    {f13 : Addr} {od13 an13 : Option Addr} {sl13 : Array (Option Value)} {oc13 kV13 dc13 pm13 cd13 ct13 : Value}
    {f14 : Addr} {od14 an14 : Option Addr} {sl14 : Array (Option Value)} {oc14 kV14 dc14 pm14 cd14 ct14 : Value}
    {f15 : Addr} {od15 an15 : Option Addr} {sl15 : Array (Option Value)} {oc15 kV15 dc15 pm15 cd15 ct15 : Value}
    {f16 : Addr} {od16 an16 : Option Addr} {sl16 : Array (Option Value)} {oc16 kV16 dc16 pm16 cd16 ct16 : Value}
    {f17 : Addr} {od17 an17 : Option Addr} {sl17 : Array (Option Value)} {oc17 kV17 dc17 pm17 cd17 ct17 : Value}
    {f18 : Addr} {od18 an18 : Option Addr} {sl18 : Array (Option Value)} {oc18 kV18 dc18 pm18 cd18 ct18 : Value}
    {tk0 : Tok}
    {C0 I0 N0 cc0 ca0 : Addr} {nm0 q0 fi0 : Str} {bs0 bm0 sub0 : List Value} {sn0 : List Str} {ab0 : Bool} {col0 : Option Bool} {dd0 od_0 an_0 cld0 cdd0 : Option Addr} {m0_0 m1_0 m2_0 m3_0 m5_0 : Option Value} {oc_0 dc_0 pm_0 ct_0 cl0 ccl0 : Value} {sl_0 csl0 ccs0 : Array (Option Value)} {vs0 : Array Value} {tf0 : Tok}
    {C1 I1 N1 cc1 ca1 : Addr} {nm1 q1 fi1 : Str} {bs1 bm1 sub1 : List Value} {sn1 : List Str} {ab1 : Bool} {col1 : Option Bool} {dd1 od_1 an_1 cld1 cdd1 : Option Addr} {m0_1 m1_1 m2_1 m3_1 m5_1 : Option Value} {oc_1 dc_1 pm_1 ct_1 cl1 ccl1 : Value} {sl_1 csl1 ccs1 : Array (Option Value)} {vs1 : Array Value} {tf1 : Tok}
    {H0 : Addr}
    {H1 : Addr}
    (a0 : PySem.W.nsIn K mainGlobals "raised" = some (some (.ref f0)))
    (l0 : K.lookup f0 = some ⟨oc0, od0, .func (PySem.W.fnOf "raised" "raised" (defArgs (top 5)) (defBody (top 5)) (defScope (top 5)) .none kV0 dc0 pm0 an0 cd0 ct0), sl0⟩)
    (c0 : PySem.W.codeIn K cd0 "raised" = true)
    (k0 : PySem.W.keepIn K (.ref f0) = true)
    (a1 : PySem.W.nsIn K mainGlobals "double_chain" = some (some (.ref f1)))
    (l1 : K.lookup f1 = some ⟨oc1, od1, .func (PySem.W.fnOf "double_chain" "double_chain" (defArgs (top 8)) (defBody (top 8)) (defScope (top 8)) .none kV1 dc1 pm1 an1 cd1 ct1), sl1⟩)
    (c1 : PySem.W.codeIn K cd1 "double_chain" = true)
    (k1 : PySem.W.keepIn K (.ref f1) = true)
    (a2 : PySem.W.nsIn K mainGlobals "_found" = some (some (.ref f2)))
    (l2 : K.lookup f2 = some ⟨oc2, od2, .func (PySem.W.fnOf "_found" "_found" (defArgs (top 9)) (defBody (top 9)) (defScope (top 9)) .none kV2 dc2 pm2 an2 cd2 ct2), sl2⟩)
    (c2 : PySem.W.codeIn K cd2 "_found" = true)
    (k2 : PySem.W.keepIn K (.ref f2) = true)
    (a3 : PySem.W.nsIn K mainGlobals "short_chain" = some (some (.ref f3)))
    (l3 : K.lookup f3 = some ⟨oc3, od3, .func (PySem.W.fnOf "short_chain" "short_chain" (defArgs (top 10)) (defBody (top 10)) (defScope (top 10)) .none kV3 dc3 pm3 an3 cd3 ct3), sl3⟩)
    (c3 : PySem.W.codeIn K cd3 "short_chain" = true)
    (k3 : PySem.W.keepIn K (.ref f3) = true)
    (a4 : PySem.W.nsIn K mainGlobals "adding_right" = some (some (.ref f4)))
    (l4 : K.lookup f4 = some ⟨oc4, od4, .func (PySem.W.fnOf "adding_right" "adding_right" (defArgs (top 11)) (defBody (top 11)) (defScope (top 11)) .none kV4 dc4 pm4 an4 cd4 ct4), sl4⟩)
    (c4 : PySem.W.codeIn K cd4 "adding_right" = true)
    (k4 : PySem.W.keepIn K (.ref f4) = true)
    (a5 : PySem.W.nsIn K mainGlobals "_law_draw" = some (some (.ref f5)))
    (l5 : K.lookup f5 = some ⟨oc5, od5, .func (PySem.W.fnOf "_law_draw" "_law_draw" (defArgs (top 14)) (defBody (top 14)) (defScope (top 14)) .none kV5 dc5 pm5 an5 cd5 ct5), sl5⟩)
    (c5 : PySem.W.codeIn K cd5 "_law_draw" = true)
    (k5 : PySem.W.keepIn K (.ref f5) = true)
    (a6 : PySem.W.nsIn K mainGlobals "_law_same" = some (some (.ref f6)))
    (l6 : K.lookup f6 = some ⟨oc6, od6, .func (PySem.W.fnOf "_law_same" "_law_same" (defArgs (top 15)) (defBody (top 15)) (defScope (top 15)) .none kV6 dc6 pm6 an6 cd6 ct6), sl6⟩)
    (c6 : PySem.W.codeIn K cd6 "_law_same" = true)
    (k6 : PySem.W.keepIn K (.ref f6) = true)
    (a7 : PySem.W.nsIn K mainGlobals "_law_some" = some (some (.ref f7)))
    (l7 : K.lookup f7 = some ⟨oc7, od7, .func (PySem.W.fnOf "_law_some" "_law_some" (defArgs (top 16)) (defBody (top 16)) (defScope (top 16)) .none kV7 dc7 pm7 an7 cd7 ct7), sl7⟩)
    (c7 : PySem.W.codeIn K cd7 "_law_some" = true)
    (k7 : PySem.W.keepIn K (.ref f7) = true)
    (a8 : PySem.W.nsIn K mainGlobals "_law_sign" = some (some (.ref f8)))
    (l8 : K.lookup f8 = some ⟨oc8, od8, .func (PySem.W.fnOf "_law_sign" "_law_sign" (defArgs (top 17)) (defBody (top 17)) (defScope (top 17)) .none kV8 dc8 pm8 an8 cd8 ct8), sl8⟩)
    (c8 : PySem.W.codeIn K cd8 "_law_sign" = true)
    (k8 : PySem.W.keepIn K (.ref f8) = true)
    (a9 : PySem.W.nsIn K mainGlobals "_law_huge" = some (some (.ref f9)))
    (l9 : K.lookup f9 = some ⟨oc9, od9, .func (PySem.W.fnOf "_law_huge" "_law_huge" (defArgs (top 18)) (defBody (top 18)) (defScope (top 18)) .none kV9 dc9 pm9 an9 cd9 ct9), sl9⟩)
    (c9 : PySem.W.codeIn K cd9 "_law_huge" = true)
    (k9 : PySem.W.keepIn K (.ref f9) = true)
    (a10 : PySem.W.nsIn K mainGlobals "_law_touched" = some (some (.ref f10)))
    (l10 : K.lookup f10 = some ⟨oc10, od10, .func (PySem.W.fnOf "_law_touched" "_law_touched" (defArgs (top 19)) (defBody (top 19)) (defScope (top 19)) .none kV10 dc10 pm10 an10 cd10 ct10), sl10⟩)
    (c10 : PySem.W.codeIn K cd10 "_law_touched" = true)
    (k10 : PySem.W.keepIn K (.ref f10) = true)
    (a11 : PySem.W.nsIn K mainGlobals "_law_plain" = some (some (.ref f11)))
    (l11 : K.lookup f11 = some ⟨oc11, od11, .func (PySem.W.fnOf "_law_plain" "_law_plain" (defArgs (top 20)) (defBody (top 20)) (defScope (top 20)) .none kV11 dc11 pm11 an11 cd11 ct11), sl11⟩)
    (c11 : PySem.W.codeIn K cd11 "_law_plain" = true)
    (k11 : PySem.W.keepIn K (.ref f11) = true)
    (a12 : PySem.W.nsIn K mainGlobals "_law_right" = some (some (.ref f12)))
    (l12 : K.lookup f12 = some ⟨oc12, od12, .func (PySem.W.fnOf "_law_right" "_law_right" (defArgs (top 21)) (defBody (top 21)) (defScope (top 21)) .none kV12 dc12 pm12 an12 cd12 ct12), sl12⟩)
    (c12 : PySem.W.codeIn K cd12 "_law_right" = true)
    (k12 : PySem.W.keepIn K (.ref f12) = true)
    (a13 : PySem.W.nsIn K mainGlobals "_law_double" = some (some (.ref f13)))
    (l13 : K.lookup f13 = some ⟨oc13, od13, .func (PySem.W.fnOf "_law_double" "_law_double" (defArgs (top 22)) (defBody (top 22)) (defScope (top 22)) .none kV13 dc13 pm13 an13 cd13 ct13), sl13⟩)
    (c13 : PySem.W.codeIn K cd13 "_law_double" = true)
    (k13 : PySem.W.keepIn K (.ref f13) = true)
    (a14 : PySem.W.nsIn K mainGlobals "_law_lengths" = some (some (.ref f14)))
    (l14 : K.lookup f14 = some ⟨oc14, od14, .func (PySem.W.fnOf "_law_lengths" "_law_lengths" (defArgs (top 23)) (defBody (top 23)) (defScope (top 23)) .none kV14 dc14 pm14 an14 cd14 ct14), sl14⟩)
    (c14 : PySem.W.codeIn K cd14 "_law_lengths" = true)
    (k14 : PySem.W.keepIn K (.ref f14) = true)
    (a15 : PySem.W.nsIn K mainGlobals "_law_told" = some (some (.ref f15)))
    (l15 : K.lookup f15 = some ⟨oc15, od15, .func (PySem.W.fnOf "_law_told" "_law_told" (defArgs (top 24)) (defBody (top 24)) (defScope (top 24)) .none kV15 dc15 pm15 an15 cd15 ct15), sl15⟩)
    (c15 : PySem.W.codeIn K cd15 "_law_told" = true)
    (k15 : PySem.W.keepIn K (.ref f15) = true)
    (a16 : PySem.W.nsIn K mainGlobals "_law_spoilt" = some (some (.ref f16)))
    (l16 : K.lookup f16 = some ⟨oc16, od16, .func (PySem.W.fnOf "_law_spoilt" "_law_spoilt" (defArgs (top 25)) (defBody (top 25)) (defScope (top 25)) .none kV16 dc16 pm16 an16 cd16 ct16), sl16⟩)
    (c16 : PySem.W.codeIn K cd16 "_law_spoilt" = true)
    (k16 : PySem.W.keepIn K (.ref f16) = true)
    (a17 : PySem.W.nsIn K mainGlobals "_law_pool" = some (some (.ref f17)))
    (l17 : K.lookup f17 = some ⟨oc17, od17, .func (PySem.W.fnOf "_law_pool" "_law_pool" (defArgs (top 13)) (defBody (top 13)) (defScope (top 13)) .none kV17 dc17 pm17 an17 cd17 ct17), sl17⟩)
    (c17 : PySem.W.codeIn K cd17 "_law_pool" = true)
    (k17 : PySem.W.keepIn K (.ref f17) = true)
    (a18 : PySem.W.nsIn K mainGlobals "law" = some (some (.ref f18)))
    (l18 : K.lookup f18 = some ⟨oc18, od18, .func (PySem.W.fnOf "law" "law" (defArgs (top 26)) (defBody (top 26)) (defScope (top 26)) .none kV18 dc18 pm18 an18 cd18 ct18), sl18⟩)
    (c18 : PySem.W.codeIn K cd18 "law" = true)
    (k18 : PySem.W.keepIn K (.ref f18) = true)
    (b0 : PySem.W.nsIn K mainGlobals "len" = some none)
    (b1 : PySem.W.nsIn K mainGlobals "abs" = some none)
    (b2 : PySem.W.nsIn K mainGlobals "int" = some none)
    (b3 : PySem.W.nsIn K mainGlobals "max" = some none)
    (b4 : PySem.W.nsIn K mainGlobals "min" = some none)
    (b5 : PySem.W.nsIn K mainGlobals "sum" = some none)
    (b6 : PySem.W.nsIn K mainGlobals "all" = some none)
    (b7 : PySem.W.nsIn K mainGlobals "any" = some none)
    (b8 : PySem.W.nsIn K mainGlobals "tuple" = some none)
    (b9 : PySem.W.nsIn K mainGlobals "list" = some none)
    (b10 : PySem.W.nsIn K mainGlobals "sorted" = some none)
    (b11 : PySem.W.nsIn K mainGlobals "isinstance" = some none)
    (b12 : PySem.W.nsIn K mainGlobals "bool" = some none)
    (b13 : PySem.W.nsIn K mainGlobals "str" = some none)
    (b14 : PySem.W.nsIn K mainGlobals "range" = some none)
    (b15 : PySem.W.nsIn K mainGlobals "enumerate" = some none)
    (b16 : PySem.W.nsIn K mainGlobals "zip" = some none)
    (b17 : PySem.W.nsIn K mainGlobals "reversed" = some none)
    (b18 : PySem.W.nsIn K mainGlobals "set" = some none)
    (glb0 : PySem.W.nsIn K mainGlobals "MOST_SHORT" = some (some (.int 100 tk0)))
    (e0g : PySem.W.nsIn K mainGlobals "BadNumber" = some (some (.ref C0)))
    (e0x : K.lookup C0 = some (excClassObj nm0 q0 C0 N0 bs0 bm0 true sn0 sub0 ab0 col0 dd0 m0_0 m1_0 m2_0 m3_0 m5_0 "ValueError.__new__"))
    (e0r : PySem.HandSPX.refsVE bm0 = true)
    (e0s : PySem.W.findIn K (.ref C0) "__setattr__" = some (some (.builtin "object.__setattr__")))
    (e0ga : PySem.W.findIn K (.ref C0) "__getattribute__" = some (some (.builtin "BaseException.__getattribute__")))
    (e0gg : PySem.W.findIn K (.ref C0) "__getattr__" = some none)
    (e0n : PySem.W.findIn K (.ref C0) "what" = some none)
    (e0i : PySem.W.findIn K (.ref C0) "__init__" = some (some (.ref I0)))
    (e0t : PySem.W.typeIn K (.ref I0) = some (.type "function"))
    (e0k : PySem.W.keepIn K (.ref C0) = true)
    (e0b : PySem.W.subIn K (.ref C0) (.type "BaseException") = some true)
    (e0v : PySem.W.subIn K (.ref C0) (.type "ValueError") = some true)
    (e0y : PySem.W.typeIn K (.ref C0) = some (.type "type"))
    (e0h : PySem.W.hasDictIn K C0 = true)
    (e0m : PySem.W.mroIn K C0 (.ref C0) = some true)
    (e0u : PySem.W.ks_superIn K C0 C0 "__init__" = some (some (.builtin "ValueError.__init__")))
    (e0f : K.lookup I0 = some ⟨oc_0, od_0, .func (PySem.W.ksFn "__init__" "BadNumber.__init__" (defArgs (inClass (top 2) 0)) (defBody (inClass (top 2) 0)) (defScope (inClass (top 2) 0)) .none .none dc_0 pm_0 an_0 (.ref ca0) ct_0 cc0), sl_0⟩)
    (e0c : PySem.W.codeIn K (.ref ca0) "BadNumber.__init__" = true)
    (e0z : K.lookup cc0 = some ⟨cl0, cld0, .cell (some (.ref C0)), csl0⟩)
    (e0d : K.lookup ca0 = some ⟨ccl0, cdd0, .fields vs0, ccs0⟩)
    (e0w : vs0[2]? = some (.str fi0 tf0))
    (e0p : ((PySem.Challenge.pw_wholeproof_k48_whole_chains_of_sums.main.file : Str) == fi0) = true)
    (e1g : PySem.W.nsIn K mainGlobals "TooLarge" = some (some (.ref C1)))
    (e1x : K.lookup C1 = some (excClassObj nm1 q1 C1 N1 bs1 bm1 true sn1 sub1 ab1 col1 dd1 m0_1 m1_1 m2_1 m3_1 m5_1 "ValueError.__new__"))
    (e1r : PySem.HandSPX.refsVE bm1 = true)
    (e1s : PySem.W.findIn K (.ref C1) "__setattr__" = some (some (.builtin "object.__setattr__")))
    (e1ga : PySem.W.findIn K (.ref C1) "__getattribute__" = some (some (.builtin "BaseException.__getattribute__")))
    (e1gg : PySem.W.findIn K (.ref C1) "__getattr__" = some none)
    (e1n : PySem.W.findIn K (.ref C1) "what" = some none)
    (e1i : PySem.W.findIn K (.ref C1) "__init__" = some (some (.ref I1)))
    (e1t : PySem.W.typeIn K (.ref I1) = some (.type "function"))
    (e1k : PySem.W.keepIn K (.ref C1) = true)
    (e1b : PySem.W.subIn K (.ref C1) (.type "BaseException") = some true)
    (e1v : PySem.W.subIn K (.ref C1) (.type "ValueError") = some true)
    (e1y : PySem.W.typeIn K (.ref C1) = some (.type "type"))
    (e1h : PySem.W.hasDictIn K C1 = true)
    (e1m : PySem.W.mroIn K C1 (.ref C1) = some true)
    (e1u : PySem.W.ks_superIn K C1 C1 "__init__" = some (some (.builtin "ValueError.__init__")))
    (e1f : K.lookup I1 = some ⟨oc_1, od_1, .func (PySem.W.ksFn "__init__" "TooLarge.__init__" (defArgs (inClass (top 3) 0)) (defBody (inClass (top 3) 0)) (defScope (inClass (top 3) 0)) .none .none dc_1 pm_1 an_1 (.ref ca1) ct_1 cc1), sl_1⟩)
    (e1c : PySem.W.codeIn K (.ref ca1) "TooLarge.__init__" = true)
    (e1z : K.lookup cc1 = some ⟨cl1, cld1, .cell (some (.ref C1)), csl1⟩)
    (e1d : K.lookup ca1 = some ⟨ccl1, cdd1, .fields vs1, ccs1⟩)
    (e1w : vs1[2]? = some (.str fi1 tf1))
    (e1p : ((PySem.Challenge.pw_wholeproof_k48_whole_chains_of_sums.main.file : Str) == fi1) = true)
    (zo : PySem.W.nsIn K cStatics "thirdparty.any" = some none)
    (zs : PySem.W.nsIn K mainGlobals "super" = some none)
    (h0 : PySem.W.nsIn K mainGlobals "BadNumber" = some (some (.ref H0)))
    (h0c : PySem.W.isClsIn K H0 = true)
    (h0b : PySem.W.subIn K (.ref H0) (.type "BaseException") = some true)
    (h0t : PySem.W.typeIn K (.ref H0) = some (.type "type"))
    (h0_0 : PySem.W.subIn K (.ref C0) (.ref H0) = some true)
    (h0_1 : PySem.W.subIn K (.ref C1) (.ref H0) = some false)
    (h1 : PySem.W.nsIn K mainGlobals "TooLarge" = some (some (.ref H1)))
    (h1c : PySem.W.isClsIn K H1 = true)
    (h1b : PySem.W.subIn K (.ref H1) (.type "BaseException") = some true)
    (h1t : PySem.W.typeIn K (.ref H1) = some (.type "type"))
    (h1_0 : PySem.W.subIn K (.ref C0) (.ref H1) = some false)
    (h1_1 : PySem.W.subIn K (.ref C1) (.ref H1) = some true)
    (nd : ([C0, C1] : List Addr).Nodup)
    (sm : ∀ c ∈ ([C0, C1] : List Addr), c < 1000000000) :
    ∃ fd : FuncData, (∀ (s : Shared) (u : Value), BindsTo s fd ⟨[u], []⟩ [(("script" : Str), u)]) ∧ ∀ base : Heap, K.In base → base.Ns mainGlobals mg → FnOk PySem.Challenge.pw_wholeproof_k48_whole_chains_of_sums w K mg base (L2.CX PySem.Challenge.pw_wholeproof_k48_whole_chains_of_sums w) 100 fa fd ["script"] (spLaw K 63) := by
  have e := hfa.symm.trans (PySem.W.mg_of X G a18)
  cases e
  have F0 := fun_mk (st := top 5) l0 c0 k0
  have F1 := fun_mk (st := top 8) l1 c1 k1
  have F2 := fun_mk (st := top 9) l2 c2 k2
  have F3 := fun_mk (st := top 10) l3 c3 k3
  have F4 := fun_mk (st := top 11) l4 c4 k4
  have F5 := fun_mk (st := top 14) l5 c5 k5
  have F6 := fun_mk (st := top 15) l6 c6 k6
  have F7 := fun_mk (st := top 16) l7 c7 k7
  have F8 := fun_mk (st := top 17) l8 c8 k8
  have F9 := fun_mk (st := top 18) l9 c9 k9
  have F10 := fun_mk (st := top 19) l10 c10 k10
  have F11 := fun_mk (st := top 20) l11 c11 k11
  have F12 := fun_mk (st := top 21) l12 c12 k12
  have F13 := fun_mk (st := top 22) l13 c13 k13
  have F14 := fun_mk (st := top 23) l14 c14 k14
  have F15 := fun_mk (st := top 24) l15 c15 k15
  have F16 := fun_mk (st := top 25) l16 c16 k16
  have F17 := fun_mk (st := top 13) l17 c17 k17
  have F18 := fun_mk (st := top 26) l18 c18 k18
  have B0 := F0.binds (ps := [("base" : Str), ("exponent" : Str)]) fun _ _ _ _ _ _ us hl => match us, hl with | [_, _], _ => rfl
  have B1 := F1.binds (ps := [("n" : Str)]) fun _ _ _ _ _ _ us hl => match us, hl with | [_], _ => rfl
  have B2 := F2.binds (ps := [("chain" : Str), ("n" : Str), ("most" : Str)]) fun _ _ _ _ _ _ us hl => match us, hl with | [_, _, _], _ => rfl
  have B3 := F3.binds (ps := [("n" : Str)]) fun _ _ _ _ _ _ us hl => match us, hl with | [_], _ => rfl
  have B4 := F4.binds (ps := [("claim" : Str)]) fun _ _ _ _ _ _ us hl => match us, hl with | [_], _ => rfl
  have B5 := F5.binds (ps := [("pool" : Str), ("size" : Str)]) fun _ _ _ _ _ _ us hl => match us, hl with | [_, _], _ => rfl
  have B6 := F6.binds (ps := [("actual" : Str), ("due" : Str)]) fun _ _ _ _ _ _ us hl => match us, hl with | [_, _], _ => rfl
  have B7 := F7.binds (ps := [("pool" : Str)]) fun _ _ _ _ _ _ us hl => match us, hl with | [_], _ => rfl
  have B8 := F8.binds (ps := [("pool" : Str), ("n" : Str)]) fun _ _ _ _ _ _ us hl => match us, hl with | [_, _], _ => rfl
  have B9 := F9.binds (ps := [("pool" : Str)]) fun _ _ _ _ _ _ us hl => match us, hl with | [_], _ => rfl
  have B10 := F10.binds (ps := [("pool" : Str), ("part" : Str)]) fun _ _ _ _ _ _ us hl => match us, hl with | [_, _], _ => rfl
  have B11 := F11.binds (ps := [("part" : Str)]) fun _ _ _ _ _ _ us hl => match us, hl with | [_], _ => rfl
  have B12 := F12.binds (ps := [("claim" : Str)]) fun _ _ _ _ _ _ us hl => match us, hl with | [_], _ => rfl
  have B13 := F13.binds (ps := [("n" : Str)]) fun _ _ _ _ _ _ us hl => match us, hl with | [_], _ => rfl
  have B14 := F14.binds (ps := [("most" : Str), ("n" : Str)]) fun _ _ _ _ _ _ us hl => match us, hl with | [_, _], _ => rfl
  have B15 := F15.binds (ps := [("way" : Str), ("n" : Str)]) fun _ _ _ _ _ _ us hl => match us, hl with | [_, _], _ => rfl
  have B16 := F16.binds (ps := [("pool" : Str), ("claim" : Str)]) fun _ _ _ _ _ _ us hl => match us, hl with | [_, _], _ => rfl
  have B17 := F17.binds (ps := [("script" : Str), ("budget" : Str)]) fun _ _ _ _ _ _ us hl => match us, hl with | [_, _], _ => rfl
  have B18 := F18.binds (ps := [("script" : Str)]) fun _ _ _ _ _ _ us hl => match us, hl with | [_], _ => rfl
  have E0 : ExTxt PySem.Challenge.pw_wholeproof_k48_whole_chains_of_sums K mg C0 I0 "what" := { cls := ⟨_, _, _, _, _, _, _, _, _, _, _, _, _, _, _, e0x, e0r⟩, sa := e0s, noN := e0n, iC := e0i, tI := e0t, kC := e0k, exC := e0b, veC := e0v, tyC := e0y, self := e0m, up := e0u, opq := zo, nosup := PySem.W.mg_none_of X G zs, top := by decide +kernel, fn := ⟨_, _, _, _, _, _, _, _, _, _, _, _, _, e0f, e0c, fun _ _ => rfl, by decide +kernel, by decide +kernel, by decide +kernel, ⟨_, _, _, e0z⟩, _, _, _, _, _, _, e0d, e0w, e0p⟩ }
  have D0 : FldOk K C0 "what" := ⟨e0ga, e0gg, e0n, e0b, e0h⟩
  have E1 : ExTxt PySem.Challenge.pw_wholeproof_k48_whole_chains_of_sums K mg C1 I1 "what" := { cls := ⟨_, _, _, _, _, _, _, _, _, _, _, _, _, _, _, e1x, e1r⟩, sa := e1s, noN := e1n, iC := e1i, tI := e1t, kC := e1k, exC := e1b, veC := e1v, tyC := e1y, self := e1m, up := e1u, opq := zo, nosup := PySem.W.mg_none_of X G zs, top := by decide +kernel, fn := ⟨_, _, _, _, _, _, _, _, _, _, _, _, _, e1f, e1c, fun _ _ => rfl, by decide +kernel, by decide +kernel, by decide +kernel, ⟨_, _, _, e1z⟩, _, _, _, _, _, _, e1d, e1w, e1p⟩ }
  have D1 : FldOk K C1 "what" := ⟨e1ga, e1gg, e1n, e1b, e1h⟩
  have Eo : EnvOk PySem.Challenge.pw_wholeproof_k48_whole_chains_of_sums K mg ⟨K, fun k => ([C0, C1] : List Addr)[k]?.getD (1000000000 + k), fun _ => "what", none, none⟩ T ts := {
    hK := rfl
    lk := rfl
    blt := fun x hx => by
      simp only [bltNames, List.mem_cons, List.not_mem_nil, or_false] at hx
      rcases hx with rfl | rfl | rfl | rfl | rfl | rfl | rfl | rfl | rfl | rfl | rfl | rfl | rfl | rfl | rfl | rfl | rfl | rfl | rfl
      · exact PySem.W.mg_none_of X G b0
      · exact PySem.W.mg_none_of X G b1
      · exact PySem.W.mg_none_of X G b2
      · exact PySem.W.mg_none_of X G b3
      · exact PySem.W.mg_none_of X G b4
      · exact PySem.W.mg_none_of X G b5
      · exact PySem.W.mg_none_of X G b6
      · exact PySem.W.mg_none_of X G b7
      · exact PySem.W.mg_none_of X G b8
      · exact PySem.W.mg_none_of X G b9
      · exact PySem.W.mg_none_of X G b10
      · exact PySem.W.mg_none_of X G b11
      · exact PySem.W.mg_none_of X G b12
      · exact PySem.W.mg_none_of X G b13
      · exact PySem.W.mg_none_of X G b14
      · exact PySem.W.mg_none_of X G b15
      · exact PySem.W.mg_none_of X G b16
      · exact PySem.W.mg_none_of X G b17
      · exact PySem.W.mg_none_of X G b18
    glb := fun x n hx => by
      simp only [T, List.lookup_cons, List.lookup_nil] at hx
      split at hx
      · rename_i e; rw [beq_iff_eq] at e; subst e; cases hx; exact ⟨_, PySem.W.mg_of X G glb0⟩
      cases hx
    made := fun x n hx => by
      simp only [T, List.lookup_cons, List.lookup_nil] at hx
      split at hx
      · rename_i e; rw [beq_iff_eq] at e; subst e; cases hx; exact mk_ok E0 (PySem.W.mg_of X G e0g) (by decide +kernel)
      split at hx
      · rename_i e; rw [beq_iff_eq] at e; subst e; cases hx; exact mk_ok E1 (PySem.W.mg_of X G e1g) (by decide +kernel)
      cases hx
    hnd := fun x cs no hx => by
      simp only [T, List.lookup_cons, List.lookup_nil] at hx
      split at hx
      · rename_i e; rw [beq_iff_eq] at e; subst e; cases hx; refine ⟨_, PySem.W.mg_of X G h0, fun k hk => ?_, fun k hk => ?_⟩
        · simp only [List.mem_cons, List.not_mem_nil, or_false] at hk
          rcases hk with rfl
          · exact ⟨exm_mk h0b h0c h0t h0_0, rfl, D0⟩
        · simp only [List.mem_cons, List.not_mem_nil, or_false] at hk
          rcases hk with rfl
          · exact exm_mk h0b h0c h0t h0_1
      split at hx
      · rename_i e; rw [beq_iff_eq] at e; subst e; cases hx; refine ⟨_, PySem.W.mg_of X G h1, fun k hk => ?_, fun k hk => ?_⟩
        · simp only [List.mem_cons, List.not_mem_nil, or_false] at hk
          rcases hk with rfl
          · exact ⟨exm_mk h1b h1c h1t h1_1, rfl, D1⟩
        · simp only [List.mem_cons, List.not_mem_nil, or_false] at hk
          rcases hk with rfl
          · exact exm_mk h1b h1c h1t h1_0
      cases hx
    inj := inj_of nd sm
    fns := rfl
    ok := ok_all
    funs := fun t ht => by
      simp only [ts, List.mem_cons, List.not_mem_nil, or_false] at ht
      rcases ht with rfl | rfl | rfl | rfl | rfl | rfl | rfl | rfl | rfl | rfl | rfl | rfl | rfl | rfl | rfl | rfl | rfl
      · exact ⟨"raised", f0, _, PySem.W.mg_of X G a0, F0, B0⟩
      · exact ⟨"double_chain", f1, _, PySem.W.mg_of X G a1, F1, B1⟩
      · exact ⟨"_found", f2, _, PySem.W.mg_of X G a2, F2, B2⟩
      · exact ⟨"short_chain", f3, _, PySem.W.mg_of X G a3, F3, B3⟩
      · exact ⟨"adding_right", f4, _, PySem.W.mg_of X G a4, F4, B4⟩
      · exact ⟨"_law_draw", f5, _, PySem.W.mg_of X G a5, F5, B5⟩
      · exact ⟨"_law_same", f6, _, PySem.W.mg_of X G a6, F6, B6⟩
      · exact ⟨"_law_some", f7, _, PySem.W.mg_of X G a7, F7, B7⟩
      · exact ⟨"_law_sign", f8, _, PySem.W.mg_of X G a8, F8, B8⟩
      · exact ⟨"_law_huge", f9, _, PySem.W.mg_of X G a9, F9, B9⟩
      · exact ⟨"_law_touched", f10, _, PySem.W.mg_of X G a10, F10, B10⟩
      · exact ⟨"_law_plain", f11, _, PySem.W.mg_of X G a11, F11, B11⟩
      · exact ⟨"_law_right", f12, _, PySem.W.mg_of X G a12, F12, B12⟩
      · exact ⟨"_law_double", f13, _, PySem.W.mg_of X G a13, F13, B13⟩
      · exact ⟨"_law_lengths", f14, _, PySem.W.mg_of X G a14, F14, B14⟩
      · exact ⟨"_law_told", f15, _, PySem.W.mg_of X G a15, F15, B15⟩
      · exact ⟨"_law_spoilt", f16, _, PySem.W.mg_of X G a16, F16, B16⟩
    }
  exact ⟨_, fun s u => .of_eq rfl, fun base _ _ => law_fn (lv := 98) (n := 63) (t := f_law) Eo F18 F17 (PySem.W.mg_of X G a17) B17 ok_pool ok_law pure_law⟩
end K48
open PySem PySem.W PyProof.Rows
set_option maxHeartbeats 0 in
theorem PySem.Challenge.cw_wholeproof_k48_whole_chains_of_sums_holds : PySem.Challenge.rw_wholeproof_k48_whole_chains_of_sums.Holds := by
  w_on; o_law; k_head; (case hw => w_witness2)
  k_fill
  refine L2.walk_of (l := PySem.Challenge.rw_wholeproof_k48_whole_chains_of_sums) (n := 63) (k := 100) (x := "script") (CX := fun w => L2.CX PySem.Challenge.pw_wholeproof_k48_whole_chains_of_sums w) (sp := fun w => PI.spLaw _ 63) rfl (by decide) rfl ⟨rfl, by decide, by decide⟩ (fun w h Y => PySem.W.kIn_of Y) ?F (fun w H a ns hl _ hS => ⟨a, ns, rfl, hl, hS, fun _ => rfl⟩) fun w H s e s' z => PI.cx_end z
  case F =>
    intro w mg fa h KX G hmg
    refine' K48.all_mk KX G hmg ?a0 ?l0 ?c0 ?k0 ?a1 ?l1 ?c1 ?k1 ?a2 ?l2 ?c2 ?k2 ?a3 ?l3 ?c3 ?k3 ?a4 ?l4 ?c4 ?k4 ?a5 ?l5 ?c5 ?k5 ?a6 ?l6 ?c6 ?k6 ?a7 ?l7 ?c7 ?k7 ?a8 ?l8 ?c8 ?k8 ?a9 ?l9 ?c9 ?k9 ?a10 ?l10 ?c10 ?k10 ?a11 ?l11 ?c11 ?k11 ?a12 ?l12 ?c12 ?k12 ?a13 ?l13 ?c13 ?k13 ?a14 ?l14 ?c14 ?k14 ?a15 ?l15 ?c15 ?k15 ?a16 ?l16 ?c16 ?k16 ?a17 ?l17 ?c17 ?k17 ?a18 ?l18 ?c18 ?k18 ?b0 ?b1 ?b2 ?b3 ?b4 ?b5 ?b6 ?b7 ?b8 ?b9 ?b10 ?b11 ?b12 ?b13 ?b14 ?b15 ?b16 ?b17 ?b18 ?glb0 ?e0g ?e0x ?e0r ?e0s ?e0ga ?e0gg ?e0n ?e0i ?e0t ?e0k ?e0b ?e0v ?e0y ?e0h ?e0m ?e0u ?e0f ?e0c ?e0z ?e0d ?e0w ?e0p ?e1g ?e1x ?e1r ?e1s ?e1ga ?e1gg ?e1n ?e1i ?e1t ?e1k ?e1b ?e1v ?e1y ?e1h ?e1m ?e1u ?e1f ?e1c ?e1z ?e1d ?e1w ?e1p ?zo ?zs ?h0 ?h0c ?h0b ?h0t ?h0_0 ?h0_1 ?h1 ?h1c ?h1b ?h1t ?h1_0 ?h1_1 ?nd ?sm
    (case a0 => k_is)
    (case l0 => k_is)
    (case c0 => k_is)
    (case k0 => k_is)
    (case a1 => k_is)
    (case l1 => k_is)
    (case c1 => k_is)
    (case k1 => k_is)
    (case a2 => k_is)
    (case l2 => k_is)
    (case c2 => k_is)
    (case k2 => k_is)
    (case a3 => k_is)
    (case l3 => k_is)
    (case c3 => k_is)
    (case k3 => k_is)
    (case a4 => k_is)
    (case l4 => k_is)
    (case c4 => k_is)
    (case k4 => k_is)
    (case a5 => k_is)
    (case l5 => k_is)
    (case c5 => k_is)
    (case k5 => k_is)
    (case a6 => k_is)
    (case l6 => k_is)
    (case c6 => k_is)
    (case k6 => k_is)
    (case a7 => k_is)
    (case l7 => k_is)
    (case c7 => k_is)
    (case k7 => k_is)
    (case a8 => k_is)
    (case l8 => k_is)
    (case c8 => k_is)
    (case k8 => k_is)
    (case a9 => k_is)
    (case l9 => k_is)
    (case c9 => k_is)
    (case k9 => k_is)
    (case a10 => k_is)
    (case l10 => k_is)
    (case c10 => k_is)
    (case k10 => k_is)
    (case a11 => k_is)
    (case l11 => k_is)
    (case c11 => k_is)
    (case k11 => k_is)
    (case a12 => k_is)
    (case l12 => k_is)
    (case c12 => k_is)
    (case k12 => k_is)
    (case a13 => k_is)
    (case l13 => k_is)
    (case c13 => k_is)
    (case k13 => k_is)
    (case a14 => k_is)
    (case l14 => k_is)
    (case c14 => k_is)
    (case k14 => k_is)
    (case a15 => k_is)
    (case l15 => k_is)
    (case c15 => k_is)
    (case k15 => k_is)
    (case a16 => k_is)
    (case l16 => k_is)
    (case c16 => k_is)
    (case k16 => k_is)
    (case a17 => k_is)
    (case l17 => k_is)
    (case c17 => k_is)
    (case k17 => k_is)
    (case a18 => k_is)
    (case l18 => k_is)
    (case c18 => k_is)
    (case k18 => k_is)
    (case b0 => k_is)
    (case b1 => k_is)
    (case b2 => k_is)
    (case b3 => k_is)
    (case b4 => k_is)
    (case b5 => k_is)
    (case b6 => k_is)
    (case b7 => k_is)
    (case b8 => k_is)
    (case b9 => k_is)
    (case b10 => k_is)
    (case b11 => k_is)
    (case b12 => k_is)
    (case b13 => k_is)
    (case b14 => k_is)
    (case b15 => k_is)
    (case b16 => k_is)
    (case b17 => k_is)
    (case b18 => k_is)
    (case glb0 => k_is)
    (case e0g => k_is)
    (case e0x => k_is)
    (case e0r => first | rfl | decide +kernel | k_is)
    (case e0s => k_is)
    (case e0ga => k_is)
    (case e0gg => k_is)
    (case e0n => k_is)
    (case e0i => k_is)
    (case e0t => k_is)
    (case e0k => k_is)
    (case e0b => k_is)
    (case e0v => k_is)
    (case e0y => k_is)
    (case e0h => k_is)
    (case e0m => first | rfl | k_is)
    (case e0u => ks_is)
    (case e0f => k_is)
    (case e0c => k_is)
    (case e0z => k_is)
    (case e0d => k_is)
    (case e0w => first | rfl | decide +kernel | k_is)
    (case e0p => first | rfl | decide +kernel | k_is)
    (case e1g => k_is)
    (case e1x => k_is)
    (case e1r => first | rfl | decide +kernel | k_is)
    (case e1s => k_is)
    (case e1ga => k_is)
    (case e1gg => k_is)
    (case e1n => k_is)
    (case e1i => k_is)
    (case e1t => k_is)
    (case e1k => k_is)
    (case e1b => k_is)
    (case e1v => k_is)
    (case e1y => k_is)
    (case e1h => k_is)
    (case e1m => first | rfl | k_is)
    (case e1u => ks_is)
    (case e1f => k_is)
    (case e1c => k_is)
    (case e1z => k_is)
    (case e1d => k_is)
    (case e1w => first | rfl | decide +kernel | k_is)
    (case e1p => first | rfl | decide +kernel | k_is)
    (case zo => k_is)
    (case zs => k_is)
    (case h0 => k_is)
    (case h0c => k_is)
    (case h0b => k_is)
    (case h0t => k_is)
    (case h0_0 => first | rfl | k_is)
    (case h0_1 => first | rfl | k_is)
    (case h1 => k_is)
    (case h1c => k_is)
    (case h1b => k_is)
    (case h1t => k_is)
    (case h1_0 => first | rfl | k_is)
    (case h1_1 => first | rfl | k_is)
    (case nd => decide)
    (case sm => decide)
