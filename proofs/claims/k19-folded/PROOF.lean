import PyProof.Rows.All
import Wide.All
import OpenK.AllK
import Wide.FinOn
import PySem.Challenge.RW_mendways_k19_folded_by_hand
import HandS.TupMul
import HandS.ForMost
import HandS.More
import HandS.Flow
import HandS.TupAny
import HandS.IsInst
import HandS.Rev
import KE.GoesMore
import KE.GoesEnum
import HandS.Exc
import PyProof.FactsAll.list_3
import PyProof.FactsAll.dict_3
set_option Elab.async false
set_option linter.all false
section
set_option maxRecDepth 100000
set_option maxHeartbeats 4000000
/-! VmC0: tuple * 0, tuple * 1. -/
namespace Vm
open PySem PySem.Spec PyProof.Rows L2

theorem mul_one (l : Addr) (items : Array Value) (n : Nat) (dd : Option Addr) (sl : Array (Option Value)) (u : Tok) :
    Meets (Builtin.«tuple.__mul__» ⟨[.ref l, .int 1 u], []⟩) (fun _ R s => s.heap.get? l = some { cls := .type "tuple", dict := dd, data := .seq items n, slots := sl } ∧ R (.ok (.ret (Value.ref l))) s) :=
  .of_wp fun prog w A R s h => by
    obtain ⟨hp, g, d, tk, os⟩ := s
    obtain ⟨hl, h⟩ := h
    have f1 := AutoSeq1.idx_int
    wp_walk using wpAny_loadPart' hl
    repeat (first
      | (refine wpAny_ite_false (by decide) ?_; wp_walk using wpAny_loadPart' hl)
      | (refine wpAny_ite_true (by simp) ?_; wp_walk using wpAny_loadPart' hl))
    exact ⟨_, rfl, h⟩
theorem mul_nought (l : Addr) (items : Array Value) (n : Nat) (dd : Option Addr) (sl : Array (Option Value)) (u : Tok) (hi : items.isEmpty = false) :
    Meets (Builtin.«tuple.__mul__» ⟨[.ref l, .int 0 u], []⟩) (fun _ R s => s.heap.get? l = some { cls := .type "tuple", dict := dd, data := .seq items n, slots := sl } ∧
      R (.ok (.ret (Value.ref s.heap.objs.size))) { s with heap := s.heap.push { cls := Value.type "tuple", data := Data.seq #[] }, toks := s.toks }) :=
  .of_wp fun prog w A R s h => by
    obtain ⟨hp, g, d, tk, os⟩ := s
    obtain ⟨hl, h⟩ := h
    have f1 := AutoSeq1.idx_int
    wp_walk using wpAny_loadPart' hl
    repeat (first
      | (refine wpAny_ite_false (by decide) ?_; wp_walk using wpAny_loadPart' hl)
      | (refine wpAny_ite_false (by simp [hi]) ?_; wp_walk using wpAny_loadPart' hl)
      | (refine wpAny_ite_true (by simp) ?_; wp_walk using wpAny_loadPart' hl))
    exact ⟨_, rfl, h⟩
def rRep01 (K : PySem.W.Frag) : R2 := fun x y H Q => ∃ l k xs, x = .ref l ∧ y = .int k ∧ SqT K H l xs ∧ xs ≠ [] ∧ ((k = 1 ∧ Q (.ref l) H) ∨ (k = 0 ∧ ∀ p, H p = none → Q (.ref p) (upd H p (.tup []))))
theorem op_rep01 {X : Cx} : OpR X (binaryOp .Mult) (rRep01 X.K) := by
  intro pins s σ H x y v u Q I rx ry h
  obtain ⟨l, k, xs, rfl, rfl, hT, hne, h⟩ := h
  cases rx
  obtain ⟨t, rfl⟩ := ry
  obtain ⟨its, r, ⟨⟨cls, dd, data, sl⟩, ho, hc, n, hd⟩, hs⟩ := I.tuple hT
  simp only at hc hd
  subst hc hd
  have hle : its.length = xs.length := r.length.symm
  have hi : its.toArray.isEmpty = false := by
    cases its with
    | nil => exact absurd (List.eq_nil_of_length_eq_zero hle.symm) hne
    | cons a b => rfl
  rcases h with ⟨rfl, q⟩ | ⟨rfl, q⟩
  · refine wpAny_binaryOp_repeat_ref (T := "tuple") (U := "int") (by decide) ⟨_, ho, rfl⟩ (fun s' => typeIs_int s' 1 t) noFill_tuple_mul F.fills_int_mul F.slot_int_rmul repeat_tuple F.slot_int_index.lookup
      (call_meets F.slot_int_rmul (typeIs_int s 1 t) F.entry_int_rmul (F.args_int_rmul_2 _ _) (int_rmul_tuple 1 t l its.toArray n dd sl)
        ⟨ho, rfl, ⟨_, ho, rfl⟩, call_meets F.slot_tuple_mul ⟨_, ho, rfl⟩ F.entry_tuple_mul (F.args_tuple_mul_2 _ _) (mul_one l its.toArray n dd sl t) ⟨ho, ?_⟩⟩)
    exact ⟨.ref l, H, I, rfl, q⟩
  · refine wpAny_binaryOp_repeat_ref (T := "tuple") (U := "int") (by decide) ⟨_, ho, rfl⟩ (fun s' => typeIs_int s' 0 t) noFill_tuple_mul F.fills_int_mul F.slot_int_rmul repeat_tuple F.slot_int_index.lookup
      (call_meets F.slot_int_rmul (typeIs_int s 0 t) F.entry_int_rmul (F.args_int_rmul_2 _ _) (int_rmul_tuple 0 t l its.toArray n dd sl)
        ⟨ho, rfl, ⟨_, ho, rfl⟩, call_meets F.slot_tuple_mul ⟨_, ho, rfl⟩ F.entry_tuple_mul (F.args_tuple_mul_2 _ _) (mul_nought l its.toArray n dd sl t hi) ⟨ho, ?_⟩⟩)
    exact ⟨.ref s.heap.objs.size, _, I.laid (t' := s.toks) (o := .tup []) (fun b ob q => Heap.get?_push_of_some _ q) (Nat.le_refl _) ⟨Nat.zero_le _, [], .nil, IsTup.new _ _⟩, rfl, q _ (I.hok.fresh (Nat.le_refl _))⟩
end Vm
end

section
set_option maxRecDepth 100000
/-! VmA: pure values, a heap of mutable things by number, operations, combinators. -/
namespace Vm
open PySem L2

/-! ### values -/
inductive PV where
  /-- sd: a dict of the module, of texts to texts, never changed; kt: a tuple of the module -/
  | non | bl (b : Bool) | int (i : Int) | str (x : Str) | tup (l : List PV) | ref (n : Nat) | sd (kvs : List (Str × Str)) | kt (l : List PV)
  deriving Inhabited
/-- what is mutable: a list, one that is read alone, a dict by ints and texts, by tuples of such, an instance -/
inductive GO where
  | lst (l : List PV) | rol (l : List PV) | dk (kvs : List (Key × PV)) | dt (kvs : List (List Key × PV)) | ins (c : Str) (fs : List (Str × PV))
  deriving Inhabited
abbrev G := List GO
abbrev Sl := List (Option PV)
structure Exc where
  cls : Str
  fs : List (Str × PV)
inductive RE (α : Type) where
  | ok (a : α) (g : G)
  | exc (x : Exc) (g : G)
abbrev ME (α : Type) := Sl → G → Option (RE α)
inductive RS where
  | nx (σ : Sl) (g : G) | rt (v : PV) (g : G) | bk (σ : Sl) (g : G) | ct (σ : Sl) (g : G) | xc (x : Exc) (σ : Sl) (g : G)
abbrev MS := Sl → G → Option RS
abbrev MG := PV → Sl → G → Option (Sl × G)
abbrev Op1 := PV → G → Option (PV × G)
abbrev Op2 := PV → PV → G → Option (PV × G)
abbrev OpN := List PV → G → Option (PV × G)
abbrev FName := Str × Str
abbrev CallT := FName → List PV → G → Option (RE PV)

def big : Nat := 16000000

/-! ### dicts -/
section
variable {κ α : Type} [DecidableEq κ]
def look (kvs : List (κ × α)) (k : κ) : Option α := (kvs.find? fun kv => decide (kv.1 = k)).map (·.2)
def putD (kvs : List (κ × α)) (k : κ) (v : α) : List (κ × α) :=
  if (kvs.any fun kv => decide (kv.1 = k)) = true then kvs.map fun kv => if kv.1 = k then (kv.1, v) else kv else kvs ++ [(k, v)]
def mergeD (kvs more : List (κ × α)) : List (κ × α) := more.foldl (fun acc kv => putD acc kv.1 kv.2) kvs
end
def setF (f : Str) (v : PV) : List (Str × PV) → List (Str × PV)
  | [] => [(f, v)]
  | (k, u) :: r => if k = f then (k, v) :: r else (k, u) :: setF f v r
/-- a key: an int, a text -/
def keyOf : PV → Option Key
  | .int i => some (.inl i)
  | .str x => some (.inr x)
  | _ => none
def keysOf : List PV → Option (List Key)
  | [] => some []
  | v :: r => match keyOf v, keysOf r with
    | some k, some ks => some (k :: ks)
    | _, _ => none
def pvK : Key → PV
  | .inl i => .int i
  | .inr x => .str x

/-! ### truth, items, sizes -/
def tru : PV → G → Option Bool
  | .non, _ => some false
  | .bl b, _ => some b
  | .int i, _ => some (i != 0)
  | .str x, _ => if x.length ≤ big then some (x.length != 0) else none
  | .tup l, _ => some (!l.isEmpty)
  | .ref r, g => match g[r]? with
    | some (.lst l) => some (!l.isEmpty)
    | some (.rol l) => some (!l.isEmpty)
    | some (.dk kvs) => some (!kvs.isEmpty)
    | _ => none
  | .sd _, _ => none
  | .kt l, _ => some (!l.isEmpty)
/-- the items of a list or a tuple -/
def seqOf : PV → G → Option (List PV)
  | .tup l, _ => some l
  | .kt l, _ => some l
  | .ref r, g => match g[r]? with
    | some (.lst l) => some l
    | some (.rol l) => some l
    | _ => none
  | _, _ => none
/-- .. of a list that may be changed -/
def lstOf : PV → G → Option (List PV)
  | .ref r, g => match g[r]? with
    | some (.lst l) => some l
    | _ => none
  | _, _ => none
def chrAt (x : Str) (i : Int) : Option Str := (atI x.cps.toList i).map fun c => ⟨#[c]⟩

/-! ### data, for == -/
mutual
def dat (g : G) : Nat → PV → Option PyData
  | 0, _ => none
  | _ + 1, .non => some .none
  | _ + 1, .bl b => some (.bool b)
  | _ + 1, .int i => some (.int i)
  | _ + 1, .str x => some (.str x)
  | n + 1, .tup l => match dats g n l with
    | some ds => some (.tuple ds)
    | none => none
  | n + 1, .ref r => match g[r]? with
    | some (.lst l) => (match dats g n l with
      | some ds => some (.list ds)
      | none => none)
    | some (.rol l) => (match dats g n l with
      | some ds => some (.list ds)
      | none => none)
    | _ => none
  | _ + 1, .sd _ => none
  | n + 1, .kt l => match dats g n l with
    | some ds => some (.tuple ds)
    | none => none
termination_by structural n => n
def dats (g : G) : Nat → List PV → Option (List PyData)
  | 0, _ => none
  | _ + 1, [] => some []
  | n + 1, v :: r => match dat g n v, dats g n r with
    | some d, some ds => some (d :: ds)
    | _, _ => none
termination_by structural n => n
end
def deepF : Nat := 100000
def eqP (g : G) (x y : PV) : Option Bool := match dat g deepF x, dat g deepF y with
  | some d, some e => if (SeqAt.shaped d && SeqAt.shaped e) = true then some (PyData.eqv d e) else none
  | _, _ => none

/-! ### operators -/
def opAdd : Op2
  | .int i, .int j, g => some (.int (i + j), g)
  | .str a, .str b, g => if a.length + b.length ≤ big then some (.str (a ++ b), g) else none
  | .tup a, .tup b, g => if a.length + b.length ≤ big then some (.tup (a ++ b), g) else none
  | .ref p, .ref q, g => match lstOf (.ref p) g, lstOf (.ref q) g with
    | some a, some b => if a.length + b.length ≤ big then some (.ref g.length, g ++ [.lst (a ++ b)]) else none
    | _, _ => none
  | _, _, _ => none
/-- x += y -/
def opIAdd : Op2
  | .int i, .int j, g => some (.int (i + j), g)
  | .str a, .str b, g => if a.length + b.length ≤ big then some (.str (a ++ b), g) else none
  | _, _, _ => none
def opSub : Op2
  | .int i, .int j, g => some (.int (i - j), g)
  | _, _, _ => none
def small64 (i : Int) : Bool := decide (-(2 ^ 64) < i) && decide (i < 2 ^ 64)
def opMul : Op2
  | .int i, .int j, g => if (small64 i || small64 j) = true then some (.int (i * j), g) else none
  | .ref p, .int k, g => match lstOf (.ref p) g with
    | some a => if 0 ≤ k ∧ k ≤ 1000 ∧ a.length * k.toNat ≤ big then some (.ref g.length, g ++ [.lst (List.flatten (List.replicate k.toNat a))]) else none
    | _ => none
  | .tup l, .int k, g => if l.isEmpty = true then none else if k = 1 then some (.tup l, g) else if k = 0 then some (.tup [], g) else if 2 ≤ k ∧ k ≤ 1000 ∧ l.length ≤ 1000 then some (.tup (List.flatten (List.replicate k.toNat l)), g) else none
  | _, _, _ => none
def opDiv : Op2
  | .int i, .int j, g => if 0 < j ∧ j < 1073741824 then some (.int (i / j), g) else none
  | _, _, _ => none
def opMod : Op2
  | .int i, .int j, g => if 0 < j then some (.int (i % j), g) else none
  | _, _, _ => none
def opPow : Op2
  | .int i, .int j, g => if (0 ≤ j ∧ j ≤ 1000000) ∧ i.natAbs < 2 ^ 64 then some (.int (i ^ j.toNat), g) else none
  | _, _, _ => none
def opEq : Op2 := fun x y g => match eqP g x y with
  | some b => some (.bl b, g)
  | none => none
def opNe : Op2 := fun x y g => match eqP g x y with
  | some b => some (.bl (!b), g)
  | none => none
def cmpI (p : Int → Int → Bool) : Op2
  | .int i, .int j, g => some (.bl (p i j), g)
  | _, _, _ => none
def opLt : Op2 := cmpI fun i j => decide (i < j)
def opLe : Op2 := cmpI fun i j => decide (i ≤ j)
def opGt : Op2 := cmpI fun i j => decide (j < i)
def opGe : Op2 := cmpI fun i j => decide (j ≤ i)
def flatP : PV → Bool
  | .non => true
  | .bl _ => true
  | .int _ => true
  | .str _ => true
  | _ => false
/-- == of flat values -/
def eqF : PV → PV → Bool
  | .non, .non => true
  | .bl a, .bl b => a == b
  | .bl a, .int b => (if a then 1 else 0) == b
  | .int a, .bl b => a == (if b then 1 else 0)
  | .int a, .int b => a == b
  | .str a, .str b => a == b
  | _, _ => false
def inS (x z : Str) : Bool := !(Builtin.Str.occurrences z x 0 z.length 1).isEmpty
/-- what a dict has at a key -/
def getD (d : PV) (k : PV) (g : G) : Option (Option PV × G) := match d with
 | .sd kvs => (match k with
    | .str x => some ((look kvs x).map PV.str, g)
    | _ => none)
 | .ref d => (match g[d]? with
  | some (.dk kvs) => (match k with
    | .int i => some (look kvs (.inl i), g)
    | .str x => some (look kvs (.inr x), g)
    | .tup l => (match kvs, keysOf l with
      | [], some _ => some (none, g.set d (.dt []))
      | _, _ => none)
    | _ => none)
  | some (.dt kvs) => (match k with
    | .tup l => (match keysOf l with
      | some ks => some (look kvs ks, g)
      | none => none)
    | _ => none)
  | _ => none)
 | _ => none
def opIn : Op2 := fun x y g => match x, y with
  | .str a, .str z => some (.bl (inS a z), g)
  | x, .tup l => if (flatP x && l.all flatP) = true then some (.bl (l.any fun y => eqF y x), g) else none
  | x, .kt l => if (flatP x && l.all flatP) = true then some (.bl (l.any fun y => eqF y x), g) else none
  | x, .ref r => match seqOf (.ref r) g with
    | some l => if (flatP x && l.all flatP) = true then some (.bl (l.any fun y => eqF y x), g) else none
    | none => match getD (.ref r) x g with
      | some (o, g') => some (.bl o.isSome, g')
      | none => none
  | x, .sd kvs => (match getD (.sd kvs) x g with
      | some (o, g') => some (.bl o.isSome, g')
      | none => none)
  | _, _ => none
def opNotIn : Op2 := fun x y g => match opIn x y g with
  | some (.bl b, g') => some (.bl (!b), g')
  | _ => none
def isN : PV → Bool
  | .non => true
  | _ => false
def opIsN : Op2
  | x, .non, g => some (.bl (isN x), g)
  | _, _, _ => none
def opNotN : Op2
  | x, .non, g => some (.bl (!isN x), g)
  | _, _, _ => none
def opIx : Op2
  | .tup l, .int i, g => (match atI l i with
    | some v => some (v, g)
    | none => none)
  | .str x, .int i, g => if x.length ≤ big then (match chrAt x i with
    | some c => some (.str c, g)
    | none => none) else none
  | .ref r, k, g => (match g[r]?, k with
    | some (.lst l), .int i => (match atI l i with
      | some v => some (v, g)
      | none => none)
    | some (.rol l), .int i => (match atI l i with
      | some v => some (v, g)
      | none => none)
    | _, k => match getD (.ref r) k g with
      | some (some v, g') => some (v, g')
      | _ => none)
  | .sd kvs, k, g => (match getD (.sd kvs) k g with
      | some (some v, g') => some (v, g')
      | _ => none)
  | _, _, _ => none
/-- the items of l[lo:hi] -/
def cutP {α : Type} (xs : List α) (lo hi : Option Int) : List α := (xs.drop (HT.sIx xs.length 0 lo)).take (HT.sIx xs.length xs.length hi - HT.sIx xs.length 0 lo)
def opSl : PV → Option Int → Option Int → G → Option (PV × G)
  | .tup l, lo, hi, g => some (.tup (cutP l lo hi), g)
  | .str x, lo, hi, g => if x.length ≤ big then some (.str (cutS x lo hi), g) else none
  | .ref r, lo, hi, g => (match seqOf (.ref r) g with
    | some l => some (.ref g.length, g ++ [.lst (cutP l lo hi)])
    | none => none)
  | _, _, _, _ => none
def unNeg : Op1
  | .int i, g => some (.int (-i), g)
  | _, _ => none

/-! ### built-in functions -/
def intsOf : List PV → Option (List Int)
  | [] => some []
  | .int i :: r => (match intsOf r with
    | some l => some (i :: l)
    | none => none)
  | _ :: _ => none
def blsOf : List PV → Option (List Bool)
  | [] => some []
  | .bl i :: r => (match blsOf r with
    | some l => some (i :: l)
    | none => none)
  | _ :: _ => none
def fLen : OpN
  | [.str x], g => if x.length ≤ big then some (.int x.length, g) else none
  | [v], g => (match seqOf v g with
    | some l => some (.int l.length, g)
    | none => none)
  | _, _ => none
def fInt : OpN
  | [.int i], g => some (.int i, g)
  | [.bl b], g => some (.int (if b then 1 else 0), g)
  | _, _ => none
def fSum : OpN
  | [.ref r], g => (match seqOf (.ref r) g with
    | some l => (match intsOf l with
      | some ns => some (.int ns.sum, g)
      | none => none)
    | none => none)
  | _, _ => none
def fMin : OpN
  | [.int i, .int j], g => some (.int (if j < i then j else i), g)
  | _, _ => none
def fMax : OpN
  | [.int i, .int j], g => some (.int (if j > i then j else i), g)
  | _, _ => none
def fAll : OpN
  | [.ref r], g => (match seqOf (.ref r) g with
    | some l => (match blsOf l with
      | some bs => some (.bl (bs.all id), g)
      | none => none)
    | none => none)
  | _, _ => none
def fAny : OpN
  | [.ref r], g => (match seqOf (.ref r) g with
    | some l => (match blsOf l with
      | some bs => some (.bl (bs.any id), g)
      | none => none)
    | none => none)
  | _, _ => none
def fTuple : OpN
  | [.tup l], g => some (.tup l, g)
  | [.ref r], g => (match seqOf (.ref r) g with
    | some l => some (.tup l, g)
    | none => none)
  | _, _ => none
def fList : OpN
  | [v], g => (match seqOf v g with
    | some l => some (.ref g.length, g ++ [.lst l])
    | none => none)
  | _, _ => none
def fDict : OpN
  | [.ref r], g => (match g[r]? with
    | some (.dk kvs) => some (.ref g.length, g ++ [.dk kvs])
    | _ => none)
  | _, _ => none
/-- isinstance, by the type's name -/
def isTy : String → PV → G → Option Bool
  | t, .non, _ => some false
  | t, .bl _, _ => some (t == "bool" || t == "int")
  | t, .int _, _ => some (t == "int")
  | t, .str _, _ => some (t == "str")
  | t, .tup _, _ => some (t == "tuple")
  | t, .kt _, _ => some (t == "tuple")
  | t, .ref r, g => match g[r]? with
    | some (.lst _) => some (t == "list")
    | some (.rol _) => some (t == "list")
    | some (.dk _) => some (t == "dict")
    | some (.dt _) => some (t == "dict")
    | _ => none
  | _, .sd _, _ => none

/-! ### methods of built-in things -/
def mAppend : OpN
  | [.ref r, v], g => (match g[r]? with
    | some (.lst l) => if l.length < big then some (.non, g.set r (.lst (l ++ [v]))) else none
    | _ => none)
  | _, _ => none
def mExtend : OpN
  | [.ref r, .ref q], g => (match lstOf (.ref r) g, lstOf (.ref q) g with
    | some l, some m => if l.length + m.length ≤ big then some (.non, g.set r (.lst (l ++ m))) else none
    | _, _ => none)
  | _, _ => none
def mPop : OpN
  | [.ref r], g => (match g[r]? with
    | some (.lst l) => (match l[l.length - 1]? with
      | some v => some (v, g.set r (.lst l.dropLast))
      | none => none)
    | _ => none)
  | [.ref r, .int i], g => (match g[r]? with
    | some (.lst l) => (match seqIndex? i l.length with
      | some k => if -(2 ^ 63) ≤ i ∧ i < 2 ^ 63 then (match l[k]? with
        | some v => some (v, g.set r (.lst (l.eraseIdx k)))
        | none => none) else none
      | none => none)
    | _ => none)
  | _, _ => none
def mGet : OpN
  | [r, k, d], g => (match getD r k g with
    | some (o, g') => some (o.getD d, g')
    | none => none)
  | [.ref r, k], g => (match getD (.ref r) k g with
    | some (o, g') => some (o.getD .non, g')
    | none => none)
  | _, _ => none
/-- d[k] = v, l[i] = v -/
def setIx : PV → PV → PV → G → Option G
  | .ref r, k, v, g => (match g[r]? with
    | some (.lst l) => (match k with
      | .int i => (match ixN l.length i with
        | some j => some (g.set r (.lst (l.set j v)))
        | none => none)
      | _ => none)
    | some (.dk kvs) => (match k with
      | .int i => if kvs.length < big then some (g.set r (.dk (putD kvs (.inl i) v))) else none
      | .str x => if kvs.length < big then some (g.set r (.dk (putD kvs (.inr x) v))) else none
      | .tup l => (match kvs, keysOf l with
        | [], some ks => some (g.set r (.dt [(ks, v)]))
        | _, _ => none)
      | _ => none)
    | some (.dt kvs) => (match k with
      | .tup l => (match keysOf l with
        | some ks => if kvs.length < big then some (g.set r (.dt (putD kvs ks v))) else none
        | none => none)
      | _ => none)
    | _ => none)
  | _, _, _, _ => none

/-! ### expressions -/
section
variable {α β : Type}
def ME.stuck : ME α := fun _ _ => none
def ME.ret (a : α) : ME α := fun _ g => some (.ok a g)
def ME.bind (m : ME α) (k : α → ME β) : ME β := fun σ g => match m σ g with
  | none => none
  | some (.exc x g') => some (.exc x g')
  | some (.ok a g') => k a σ g'
end
def liftO (o : Option (PV × G)) : Option (RE PV) := match o with
  | some (v, g) => some (.ok v g)
  | none => none
def eVar (i : Nat) : ME PV := fun σ g => match σ[i]? with
  | some (some v) => some (.ok v g)
  | _ => none
def eC (v : PV) : ME PV := ME.ret v
def eOp2 (f : Op2) (a b : ME PV) : ME PV := a.bind fun x => b.bind fun y => fun _ g => liftO (f x y g)
def eOp1 (f : Op1) (a : ME PV) : ME PV := a.bind fun x => fun _ g => liftO (f x g)
def eNil : ME (List PV) := ME.ret []
def eCons (a : ME PV) (r : ME (List PV)) : ME (List PV) := a.bind fun x => r.bind fun xs => ME.ret (x :: xs)
/-- a built-in function by its values -/
def eFn (f : OpN) (as : ME (List PV)) : ME PV := as.bind fun xs => fun _ g => liftO (f xs g)
/-- a method of a built-in thing: the receiver is looked at ahead of the arguments -/
def eMt (ok : PV → G → Bool) (f : OpN) (o : ME PV) (as : ME (List PV)) : ME PV := o.bind fun x => fun σ g =>
  if ok x g = true then (as.bind fun xs => fun _ g' => liftO (f (x :: xs) g')) σ g else none
/-- an own def -/
def eCall (call : CallT) (nm : FName) (as : ME (List PV)) : ME PV := as.bind fun xs => fun _ g => call nm xs g
/-- an own method -/
def eMeth (call : CallT) (m : Str) (o : ME PV) (as : ME (List PV)) : ME PV := o.bind fun x => fun σ g => match x with
  | .ref r => (match g[r]? with
    | some (.ins c _) => (as.bind fun xs => fun _ g' => call (c, m) (x :: xs) g') σ g
    | _ => none)
  | _ => none
/-- a new instance -/
def eNew (call : CallT) (c : Str) (as : ME (List PV)) : ME PV := as.bind fun xs => fun _ g =>
  match call (c, "__init__") (.ref g.length :: xs) (g ++ [.ins c []]) with
  | some (.ok .non g') => some (.ok (.ref g.length) g')
  | some (.exc x g') => some (.exc x g')
  | _ => none
def eAttr (f : Str) (o : ME PV) : ME PV := o.bind fun x => fun _ g => match x with
  | .ref r => (match g[r]? with
    | some (.ins _ fs) => (match fs.lookup f with
      | some v => some (.ok v g)
      | none => none)
    | _ => none)
  | _ => none
def eTup (as : ME (List PV)) : ME PV := as.bind fun xs => fun _ g => if xs.length ≤ big then some (.ok (.tup xs) g) else none
def eLst (as : ME (List PV)) : ME PV := as.bind fun xs => fun _ g => if xs.length ≤ big then some (.ok (.ref g.length) (g ++ [.lst xs])) else none
/-- a display of a dict: the new dict stands ahead of its parts -/
def eDct0 : ME PV := fun _ g => some (.ok (.ref g.length) (g ++ [.dk []]))
def ePairs : List (ME PV × ME PV) → ME (List (Key × PV))
  | [] => ME.ret []
  | (k, v) :: r => k.bind fun x => v.bind fun y => (ePairs r).bind fun ps => fun _ g => match keyOf x with
    | some q => some (.ok ((q, y) :: ps) g)
    | none => none
def eDct (ps : List (ME PV × ME PV)) : ME PV := fun σ g => match ePairs ps σ (g ++ [.dk []]) with
  | some (.ok kvs g') => (match g'[g.length]? with
    | some (.dk []) => some (.ok (.ref g.length) (g'.set g.length (.dk (mergeD [] kvs))))
    | _ => none)
  | some (.exc x g') => some (.exc x g')
  | none => none
def ePartN : ME (Option Int) := ME.ret none
def ePart (a : ME PV) : ME (Option Int) := a.bind fun x => match x with
  | .int i => ME.ret (some i)
  | _ => ME.stuck
def eSl (a : ME PV) (lo hi : ME (Option Int)) : ME PV := a.bind fun x => lo.bind fun l => hi.bind fun h => fun _ g => liftO (opSl x l h g)
def eIsTy (ts : List String) (a : ME PV) : ME PV := a.bind fun x => fun _ g => match ts with
  | [t] => (match isTy t x g with
    | some b => some (.ok (.bl b) g)
    | none => none)
  | _ => none
/-! tests -/
def tTru (a : ME PV) : ME Bool := a.bind fun x => fun _ g => match tru x g with
  | some b => some (.ok b g)
  | none => none
def tBl (a : ME PV) : ME Bool := a.bind fun x => match x with
  | .bl b => ME.ret b
  | _ => ME.stuck
def tAnd (a b : ME Bool) : ME Bool := a.bind fun c => if c = true then b else ME.ret false
def tOr (a b : ME Bool) : ME Bool := a.bind fun c => if c = true then ME.ret true else b
def tNot (a : ME Bool) : ME Bool := a.bind fun c => ME.ret (!c)
def eBl (t : ME Bool) : ME PV := t.bind fun b => ME.ret (.bl b)
def eIf (t : ME Bool) (a b : ME PV) : ME PV := t.bind fun c => if c = true then a else b
def eAnd (a b : ME PV) : ME PV := a.bind fun x => fun σ g => match tru x g with
  | some true => b σ g
  | some false => some (.ok x g)
  | none => none
def eOr (a b : ME PV) : ME PV := a.bind fun x => fun σ g => match tru x g with
  | some true => some (.ok x g)
  | some false => b σ g
  | none => none
/-- a op b op' c -/
def eChain (f h : Op2) (a b c : ME PV) : ME PV := a.bind fun x => b.bind fun y => fun σ g => match f x y g with
  | some (.bl true, g') => (c.bind fun z => fun _ g2 => liftO (h y z g2)) σ g'
  | some (.bl false, g') => some (.ok (.bl false) g')
  | _ => none

/-! ### what is walked -/
inductive Bs where
  | lst (r : Nat) | tup (l : List PV) | str (x : Str)
inductive Src where
  | bs (b : Bs) | zip (a b : Bs) | enum (b : Bs) | rev (b : Bs) (n : Nat) | rng (lo c : Int) (n : Nat)
def signs (x : Str) : List PV := x.cps.toList.map fun c => PV.str ⟨#[c]⟩
def Bs.items : Bs → G → Option (List PV)
  | .lst r, g => seqOf (.ref r) g
  | .tup l, _ => some l
  | .str x, _ => some (signs x)
/-- at turn i: none: not known; some none: it stops; some (some x): it yields x -/
def Src.item (i : Nat) (g : G) : Src → Option (Option PV)
  | .bs b => (match b.items g with
    | some l => some l[i]?
    | none => none)
  | .zip a b => (match a.items g, b.items g with
    | some l, some m => (match l[i]?, m[i]? with
      | some x, some y => some (some (.tup [x, y]))
      | _, _ => if i = min l.length m.length then some none else none)
    | _, _ => none)
  | .enum b => (match b.items g with
    | some l => (match l[i]? with
      | some x => some (some (.tup [.int i, x]))
      | none => if i = l.length then some none else none)
    | none => none)
  | .rev b n => if i < n then (match b.items g with
    | some l => (match l[n - 1 - i]? with
      | some x => some (some x)
      | none => none)
    | none => none) else some none
  | .rng lo c n => if i < n then some (some (.int (lo + i * c))) else some none
def Src.len (g : G) : Src → Nat
  | .bs b => ((b.items g).getD []).length
  | .zip a b => min ((a.items g).getD []).length ((b.items g).getD []).length
  | .enum b => ((b.items g).getD []).length
  | .rev _ n => n
  | .rng _ _ n => n
def bsOf (v : PV) (g : G) : Option Bs := match v with
  | .tup l => some (.tup l)
  | .str x => some (.str x)
  | .ref r => (match seqOf (.ref r) g with
    | some _ => some (.lst r)
    | none => none)
  | _ => none
abbrev MI := Sl → G → Option (RE Src)
def iBs (a : ME PV) : MI := a.bind fun x => fun _ g => match bsOf x g with
  | some b => some (.ok (.bs b) g)
  | none => none
def iZip (a b : ME PV) : MI := a.bind fun x => b.bind fun y => fun _ g => match bsOf x g, bsOf y g with
  | some p, some q => some (.ok (.zip p q) g)
  | _, _ => none
def iEnum (a : ME PV) : MI := a.bind fun x => fun _ g => match bsOf x g with
  | some b => some (.ok (.enum b) g)
  | none => none
def iRev (a : ME PV) : MI := a.bind fun x => fun _ g => match bsOf x g with
  | some (.lst r) => (match seqOf (.ref r) g with
    | some l => some (.ok (.rev (.lst r) l.length) g)
    | none => none)
  | some (.tup l) => some (.ok (.rev (.tup l) l.length) g)
  | _ => none
def in62 (i : Int) : Bool := decide (-(2 ^ 62) ≤ i) && decide (i < 2 ^ 62)
def iRng1 (a : ME PV) : MI := a.bind fun x => match x with
  | .int j => fun _ g => if in62 j = true then some (.ok (.rng 0 1 j.toNat) g) else none
  | _ => ME.stuck
def iRng2 (a b : ME PV) : MI := a.bind fun x => b.bind fun y => match x, y with
  | .int i, .int j => fun _ g => if (in62 i && in62 j) = true then some (.ok (.rng i 1 (j - i).toNat) g) else none
  | _, _ => ME.stuck
/-- range(a, b, -1) -/
def iRngD (a b : ME PV) : MI := a.bind fun x => b.bind fun y => match x, y with
  | .int i, .int j => fun _ g => if (in62 i && in62 j) = true then some (.ok (.rng i (-1) (i - j).toNat) g) else none
  | _, _ => ME.stuck

/-! ### targets -/
def gName (i : Nat) : MG := fun v σ g => some (σ.set i (some v), g)
def gNil : List PV → Sl → G → Option (Sl × G)
  | [], σ, g => some (σ, g)
  | _, _, _ => none
def gCons (t : MG) (u : List PV → Sl → G → Option (Sl × G)) : List PV → Sl → G → Option (Sl × G)
  | v :: r, σ, g => (match t v σ g with
    | some (σ', g') => u r σ' g'
    | none => none)
  | [], _, _ => none
def gTup (t : List PV → Sl → G → Option (Sl × G)) : MG := fun v σ g => match v with
  | .tup l => t l σ g
  | _ => none
def gAttr (f : Str) (o : ME PV) : MG := fun v σ g => match o σ g with
  | some (.ok (.ref r) g') => (match g'[r]? with
    | some (.ins c fs) => if fs.length < 100 then some (σ, g'.set r (.ins c (setF f v fs))) else none
    | _ => none)
  | _ => none
def gSub (o i : ME PV) : MG := fun v σ g => match o σ g with
  | some (.ok x g1) => (match i σ g1 with
    | some (.ok k g2) => (match setIx x k v g2 with
      | some g3 => some (σ, g3)
      | none => none)
    | _ => none)
  | _ => none

/-! ### comprehensions -/
def wipeP (σ : Sl) : List Nat → Sl
  | [] => σ
  | v :: vs => (wipeP σ vs).set v none
def compLoop (src : Src) (σ0 : Sl) (vs : List Nat) (tg : MG) (t : ME Bool) (e : ME PV) (D : Nat) : Nat → Nat → G → Option G
  | 0, _, _ => none
  | m + 1, i, g => match src.item i g with
    | none => none
    | some none => some g
    | some (some x) => match tg x (wipeP σ0 vs) g with
      | none => none
      | some (σ2, g2) => match t σ2 g2 with
        | some (.ok false g3) => compLoop src σ0 vs tg t e D m (i + 1) g3
        | some (.ok true g3) => (match e σ2 g3 with
          | some (.ok y g4) => (match g4[D]? with
            | some (.lst acc) => if acc.length < big then compLoop src σ0 vs tg t e D m (i + 1) (g4.set D (.lst (acc ++ [y]))) else none
            | _ => none)
          | _ => none)
        | _ => none
def tYes : ME Bool := ME.ret true
/-- [e for tg in it if t]; vs: the block's own slots -/
def eComp (it : MI) (vs : List Nat) (tg : MG) (t : ME Bool) (e : ME PV) : ME PV := fun σ g => match it σ g with
  | some (.ok src g1) => (match compLoop src σ vs tg t e g1.length (src.len g1 + 1) 0 (g1 ++ [.lst []]) with
    | some g2 => some (.ok (.ref g1.length) g2)
    | none => none)
  | some (.exc x g1) => some (.exc x g1)
  | none => none

/-! ### statements -/
def sStuck : MS := fun _ _ => none
def sNext : MS := fun σ g => some (.nx σ g)
def sSeq (a b : MS) : MS := fun σ g => match a σ g with
  | some (.nx σ' g') => b σ' g'
  | r => r
def sExpr (e : ME PV) : MS := fun σ g => match e σ g with
  | some (.ok _ g') => some (.nx σ g')
  | some (.exc x g') => some (.xc x σ g')
  | none => none
def sRet (e : ME PV) : MS := fun σ g => match e σ g with
  | some (.ok v g') => some (.rt v g')
  | some (.exc x g') => some (.xc x σ g')
  | none => none
def sRetN : MS := fun _ g => some (.rt .non g)
def sAsg (tg : MG) (e : ME PV) : MS := fun σ g => match e σ g with
  | some (.ok v g') => (match tg v σ g' with
    | some (σ2, g2) => some (.nx σ2 g2)
    | none => none)
  | some (.exc x g') => some (.xc x σ g')
  | none => none
def sIf (t : ME Bool) (a b : MS) : MS := fun σ g => match t σ g with
  | some (.ok true g') => a σ g'
  | some (.ok false g') => b σ g'
  | some (.exc x g') => some (.xc x σ g')
  | none => none
def sCt : MS := fun σ g => some (.ct σ g)
def sBk : MS := fun σ g => some (.bk σ g)
/-- o.f op= e -/
def sAugA (f : Str) (op : Op2) (o e : ME PV) : MS := fun σ g => match o σ g with
  | some (.ok (.ref r) g1) => (match g1[r]? with
    | some (.ins c fs) => (match fs.lookup f with
      | some v => (match e σ g1 with
        | some (.ok y g2) => (match op v y g2 with
          | some (z, g3) => (match g3[r]? with
            | some (.ins c' fs') => if c' = c ∧ fs'.length < 100 then some (.nx σ (g3.set r (.ins c (setF f z fs')))) else none
            | _ => none)
          | none => none)
        | some (.exc x g2) => some (.xc x σ g2)
        | none => none)
      | none => none)
    | _ => none)
  | _ => none
/-- x op= e -/
def sAugN (i : Nat) (op : Op2) (e : ME PV) : MS := fun σ g => match σ[i]? with
  | some (some v) => (match e σ g with
    | some (.ok y g1) => (match op v y g1 with
      | some (z, g2) => some (.nx (σ.set i (some z)) g2)
      | none => none)
    | some (.exc x g1) => some (.xc x σ g1)
    | none => none)
  | _ => none
def forLoop (src : Src) (tg : MG) (b : MS) : Nat → Nat → MS
  | 0, _ => fun _ _ => none
  | m + 1, i => fun σ g => match src.item i g with
    | none => none
    | some none => some (.nx σ g)
    | some (some x) => match tg x σ g with
      | none => none
      | some (σ2, g2) => match b σ2 g2 with
        | some (.nx σ' g') => forLoop src tg b m (i + 1) σ' g'
        | some (.ct σ' g') => forLoop src tg b m (i + 1) σ' g'
        | some (.bk σ' g') => some (.nx σ' g')
        | r => r
def sFor (it : MI) (tg : MG) (b : MS) : MS := fun σ g => match it σ g with
  | some (.ok src g') => forLoop src tg b (src.len g' + 1) 0 σ g'
  | some (.exc x g') => some (.xc x σ g')
  | none => none
def whileLoop (t : ME Bool) (b : MS) : Nat → MS
  | 0 => fun _ _ => none
  | m + 1 => fun σ g => match t σ g with
    | some (.ok true g') => (match b σ g' with
      | some (.nx σ2 g2) => whileLoop t b m σ2 g2
      | some (.ct σ2 g2) => whileLoop t b m σ2 g2
      | some (.bk σ2 g2) => some (.nx σ2 g2)
      | r => r)
    | some (.ok false g') => some (.nx σ g')
    | some (.exc x g') => some (.xc x σ g')
    | none => none
def whileF : Nat := 1000000
def sWhile (t : ME Bool) (b : MS) : MS := whileLoop t b whileF
/-- a try whose body raises nothing -/
def sTry0 (b : MS) : MS := fun σ g => match b σ g with
  | some (.xc _ _ _) => none
  | r => r

/-! ### defs -/
structure FDef where
  np : Nat
  ns : Nat
  body : CallT → MS
def runBody (r : Option RS) : Option (RE PV) := match r with
  | some (.nx _ g) => some (.ok .non g)
  | some (.rt v g) => some (.ok v g)
  | some (.xc x _ g) => some (.exc x g)
  | _ => none
def startP (ns : Nat) (args : List PV) : Sl := args.map some ++ List.replicate (ns - args.length) none
def callF (T : FName → Option FDef) : Nat → CallT
  | 0 => fun _ _ _ => none
  | n + 1 => fun nm args g => match T nm with
    | none => none
    | some d => if args.length = d.np then runBody (d.body (callF T n) (startP d.ns args) g) else none
end Vm
end

section
set_option maxRecDepth 100000
/-! VmB: how pure values stand in HandS's heap. -/
namespace Vm
open PySem L2 PySem.Spec PyProof.Rows

structure Wd where
  K : PySem.W.Frag
  w : World
  cls : Str → Option Addr
  isAttr : Str → Bool
/-- a dict of the module, of texts to texts -/
def SD (W : Wd) (a : Addr) (kvs : List (Str × Str)) : Prop :=
  (∃ es n, KDict W.K W.w a es n) ∧ ∀ x : Str, ∃ r : Option Value, PySem.W.nsIn W.K a x = some r ∧ (match look kvs x with | some y => ∃ u, r = some u ∧ RelV (.str y) u | none => r = none)
/-- a tuple of the module -/
def KT (W : Wd) (a : Addr) (vs : List V) : Prop := ∃ (o : Obj) (its : Array Value) (n : Nat), W.K.lookup a = some o ∧ o.cls = .type "tuple" ∧ o.data = .seq its n ∧ its.size ≤ sizeLine ∧ Vals vs its.toList
mutual
def RV (W : Wd) (H : Hp) (ads : List Addr) : PV → V → Prop
  | .non, v => v = .non
  | .bl b, v => v = .bl b
  | .int i, v => v = .int i
  | .str x, v => v = .str x
  | .tup l, v => ∃ a vs, v = .ref a ∧ H a = some (.tup vs) ∧ RVs W H ads l vs
  | .kt l, v => ∃ a vs, v = .ref a ∧ KT W a vs ∧ RVs W H ads l vs
  | .ref n, v => ∃ a, v = .ref a ∧ ads[n]? = some a
  | .sd kvs, v => ∃ a, v = .ref a ∧ SD W a kvs
termination_by structural p => p
def RVs (W : Wd) (H : Hp) (ads : List Addr) : List PV → List V → Prop
  | [], vs => vs = []
  | p :: r, vs => ∃ v t, vs = v :: t ∧ RV W H ads p v ∧ RVs W H ads r t
termination_by structural p => p
end
def RKs {κ : Type} (W : Wd) (H : Hp) (ads : List Addr) : List (κ × PV) → List (κ × V) → Prop
  | [], l => l = []
  | (k, p) :: r, l => ∃ v t, l = (k, v) :: t ∧ RV W H ads p v ∧ RKs W H ads r t
def RO (W : Wd) (H : Hp) (ads : List Addr) (a : Addr) : GO → Prop
  | .lst l => ∃ vs, H a = some (.lst vs) ∧ RVs W H ads l vs
  | .rol l => ∃ vs, Rd H a (.lst vs) ∧ RVs W H ads l vs
  | .dk kvs => ∃ ks, H a = some (.dK ks) ∧ RKs W H ads kvs ks
  | .dt kvs => ∃ ks, H a = some (.dT ks) ∧ RKs W H ads kvs ks
  | .ins c fs => ∃ C dx fs', H a = some (.ins C dx fs') ∧ W.cls c = some C ∧ RKs W H ads fs fs' ∧ fs.all (fun p => W.isAttr p.1) = true
structure RG (W : Wd) (H : Hp) (ads : List Addr) (g : G) : Prop where
  len : ads.length = g.length
  nd : ads.Nodup
  ob : ∀ (n : Nat) (o : GO) (a : Addr), g[n]? = some o → ads[n]? = some a → RO W H ads a o
structure Ext (W : Wd) (H : Hp) (ads : List Addr) (H' : Hp) (ads' : List Addr) : Prop where
  pre : ∃ more, ads' = ads ++ more
  tup : ∀ a vs, H a = some (.tup vs) → H' a = some (.tup vs)
structure RSl (W : Wd) (H : Hp) (ads : List Addr) (σp : Sl) (σ : L2.St) : Prop where
  len : σ.length = σp.length
  at_ : ∀ (i : Nat) (p : PV), σp[i]? = some (some p) → ∃ v, σ[i]? = some (some v) ∧ RV W H ads p v

section
variable {W : Wd} {H H' H2 : Hp} {ads ads' ads2 : List Addr}
theorem Ext.refl : Ext W H ads H ads := ⟨⟨[], by simp⟩, fun _ _ h => h⟩
theorem Ext.trans (a : Ext W H ads H' ads') (b : Ext W H' ads' H2 ads2) : Ext W H ads H2 ads2 := by
  obtain ⟨m, rfl⟩ := a.pre
  obtain ⟨m2, rfl⟩ := b.pre
  exact ⟨⟨m ++ m2, by simp⟩, fun x vs h => b.tup _ _ (a.tup _ _ h)⟩
theorem Ext.get (e : Ext W H ads H' ads') {n : Nat} {a : Addr} (h : ads[n]? = some a) : ads'[n]? = some a := by
  obtain ⟨m, rfl⟩ := e.pre
  have hl := (List.getElem?_eq_some_iff.mp h).1
  rw [List.getElem?_append_left hl]
  exact h
mutual
theorem RV.mono (e : Ext W H ads H' ads') : ∀ {p : PV} {v : V}, RV W H ads p v → RV W H' ads' p v
  | .non, _, h => h
  | .bl _, _, h => h
  | .int _, _, h => h
  | .str _, _, h => h
  | .tup l, _, h => by
    unfold RV at h ⊢
    obtain ⟨a, vs, rfl, hs, hr⟩ := h
    exact ⟨a, vs, rfl, e.tup _ _ hs, RVs.mono e hr⟩
  | .kt l, _, h => by
    unfold RV at h ⊢
    obtain ⟨a, vs, rfl, hs, hr⟩ := h
    exact ⟨a, vs, rfl, hs, RVs.mono e hr⟩
  | .ref n, _, h => by
    unfold RV at h ⊢
    obtain ⟨a, rfl, hn⟩ := h
    exact ⟨a, rfl, e.get hn⟩
  | .sd _, _, h => by
    unfold RV at h ⊢
    exact h
termination_by structural p => p
theorem RVs.mono (e : Ext W H ads H' ads') : ∀ {l : List PV} {vs : List V}, RVs W H ads l vs → RVs W H' ads' l vs
  | [], _, h => h
  | p :: r, _, h => by
    unfold RVs at h ⊢
    obtain ⟨v, t, rfl, h1, h2⟩ := h
    exact ⟨v, t, rfl, RV.mono e h1, RVs.mono e h2⟩
termination_by structural l => l
end
theorem RKs.mono {κ : Type} (e : Ext W H ads H' ads') : ∀ {l : List (κ × PV)} {ks : List (κ × V)}, RKs W H ads l ks → RKs W H' ads' l ks
  | [], _, h => h
  | (k, p) :: r, _, h => by
    unfold RKs at h ⊢
    obtain ⟨v, t, rfl, h1, h2⟩ := h
    exact ⟨v, t, rfl, h1.mono e, RKs.mono e h2⟩
theorem RSl.mono {σp : Sl} {σ : L2.St} (h : RSl W H ads σp σ) (e : Ext W H ads H' ads') : RSl W H' ads' σp σ :=
  ⟨h.len, fun i p q => let ⟨v, h1, h2⟩ := h.at_ i p q; ⟨v, h1, h2.mono e⟩⟩

/-! ### lists of values -/
theorem RVs.nil : RVs W H ads [] [] := by unfold RVs; rfl
theorem RVs.cons {p : PV} {v : V} {l : List PV} {vs : List V} (h : RV W H ads p v) (r : RVs W H ads l vs) : RVs W H ads (p :: l) (v :: vs) := by
  unfold RVs; exact ⟨v, vs, rfl, h, r⟩
theorem RVs.uncons {p : PV} {l : List PV} {vs : List V} (h : RVs W H ads (p :: l) vs) : ∃ v t, vs = v :: t ∧ RV W H ads p v ∧ RVs W H ads l t := by
  unfold RVs at h; exact h
theorem RVs.nil_eq {vs : List V} (h : RVs W H ads [] vs) : vs = [] := by unfold RVs at h; exact h
theorem RVs.length : ∀ {l : List PV} {vs : List V}, RVs W H ads l vs → vs.length = l.length
  | [], _, h => by rw [h.nil_eq]; rfl
  | p :: r, _, h => by
    obtain ⟨v, t, rfl, _, h2⟩ := h.uncons
    rw [List.length_cons, List.length_cons, RVs.length h2]
theorem RVs.get : ∀ {l : List PV} {vs : List V} {i : Nat} {p : PV}, RVs W H ads l vs → l[i]? = some p → ∃ v, vs[i]? = some v ∧ RV W H ads p v
  | [], _, i, p, h, e => by simp at e
  | q :: r, _, 0, p, h, e => by
    obtain ⟨v, t, rfl, h1, h2⟩ := h.uncons
    rw [List.getElem?_cons_zero] at e
    cases e
    exact ⟨v, rfl, h1⟩
  | q :: r, _, i + 1, p, h, e => by
    obtain ⟨v, t, rfl, h1, h2⟩ := h.uncons
    rw [List.getElem?_cons_succ] at e
    obtain ⟨w, e1, e2⟩ := RVs.get h2 e
    exact ⟨w, by rw [List.getElem?_cons_succ]; exact e1, e2⟩
theorem RVs.getV {l : List PV} {vs : List V} {i : Nat} {v : V} (h : RVs W H ads l vs) (e : vs[i]? = some v) : ∃ p, l[i]? = some p ∧ RV W H ads p v := by
  have hl := (List.getElem?_eq_some_iff.mp e).1
  rw [h.length] at hl
  obtain ⟨w, e1, e2⟩ := h.get (List.getElem?_eq_getElem hl)
  rw [e] at e1
  cases e1
  exact ⟨_, List.getElem?_eq_getElem hl, e2⟩
theorem RVs.append : ∀ {l m : List PV} {vs ws : List V}, RVs W H ads l vs → RVs W H ads m ws → RVs W H ads (l ++ m) (vs ++ ws)
  | [], m, _, ws, h, k => by rw [h.nil_eq]; exact k
  | p :: r, m, _, ws, h, k => by
    obtain ⟨v, t, rfl, h1, h2⟩ := h.uncons
    exact .cons h1 (RVs.append h2 k)
theorem RVs.take : ∀ {l : List PV} {vs : List V} (n : Nat), RVs W H ads l vs → RVs W H ads (l.take n) (vs.take n)
  | _, _, 0, _ => .nil
  | [], _, n + 1, h => by rw [h.nil_eq]; exact .nil
  | p :: r, _, n + 1, h => by
    obtain ⟨v, t, rfl, h1, h2⟩ := h.uncons
    exact .cons h1 (RVs.take n h2)
theorem RVs.drop : ∀ {l : List PV} {vs : List V} (n : Nat), RVs W H ads l vs → RVs W H ads (l.drop n) (vs.drop n)
  | _, _, 0, h => h
  | [], _, n + 1, h => by rw [h.nil_eq]; exact .nil
  | p :: r, _, n + 1, h => by
    obtain ⟨v, t, rfl, h1, h2⟩ := h.uncons
    exact RVs.drop n h2
theorem RVs.cut {l : List PV} {vs : List V} (h : RVs W H ads l vs) (lo hi : Option Int) : RVs W H ads (cutP l lo hi) (cutV vs lo hi) := by
  unfold cutP cutV
  rw [h.length]
  exact (h.drop _).take _
theorem RVs.set {p : PV} {v : V} (hp : RV W H ads p v) : ∀ {l : List PV} {vs : List V} (i : Nat), RVs W H ads l vs → RVs W H ads (l.set i p) (vs.set i v)
  | [], _, _, h => by rw [h.nil_eq]; exact .nil
  | q :: r, _, 0, h => by
    obtain ⟨w, t, rfl, h1, h2⟩ := h.uncons
    exact .cons hp h2
  | q :: r, _, i + 1, h => by
    obtain ⟨w, t, rfl, h1, h2⟩ := h.uncons
    exact .cons h1 (RVs.set hp i h2)
theorem RVs.erase : ∀ {l : List PV} {vs : List V} (i : Nat), RVs W H ads l vs → RVs W H ads (l.eraseIdx i) (vs.eraseIdx i)
  | [], _, _, h => by rw [h.nil_eq]; exact .nil
  | q :: r, _, 0, h => by
    obtain ⟨w, t, rfl, h1, h2⟩ := h.uncons
    exact h2
  | q :: r, _, i + 1, h => by
    obtain ⟨w, t, rfl, h1, h2⟩ := h.uncons
    exact .cons h1 (RVs.erase i h2)
theorem RVs.dropLast {l : List PV} {vs : List V} (h : RVs W H ads l vs) : RVs W H ads l.dropLast vs.dropLast := by
  rw [List.dropLast_eq_take, List.dropLast_eq_take, h.length]
  exact h.take _
theorem RVs.isEmpty : ∀ {l : List PV} {vs : List V}, RVs W H ads l vs → vs.isEmpty = l.isEmpty
  | [], _, h => by rw [h.nil_eq]; rfl
  | p :: r, _, h => by
    obtain ⟨v, t, rfl, _, _⟩ := h.uncons
    rfl
theorem RKs.isEmpty {κ : Type} : ∀ {l : List (κ × PV)} {vs : List (κ × V)}, RKs W H ads l vs → vs.isEmpty = l.isEmpty
  | [], _, h => by unfold RKs at h; rw [h]; rfl
  | (k, p) :: r, _, h => by
    unfold RKs at h
    obtain ⟨v, t, rfl, _, _⟩ := h
    rfl
theorem RKs.nil {κ : Type} : RKs (κ := κ) W H ads [] [] := by unfold RKs; rfl
theorem RKs.cons {κ : Type} {k : κ} {p : PV} {v : V} {l : List (κ × PV)} {vs : List (κ × V)} (h : RV W H ads p v) (r : RKs W H ads l vs) : RKs W H ads ((k, p) :: l) ((k, v) :: vs) := by
  unfold RKs; exact ⟨v, vs, rfl, h, r⟩
theorem RKs.uncons {κ : Type} {k : κ} {p : PV} {l : List (κ × PV)} {vs : List (κ × V)} (h : RKs W H ads ((k, p) :: l) vs) : ∃ v t, vs = (k, v) :: t ∧ RV W H ads p v ∧ RKs W H ads l t := by
  unfold RKs at h; exact h
theorem RKs.nil_eq {κ : Type} {vs : List (κ × V)} (h : RKs W H ads [] vs) : vs = [] := by unfold RKs at h; exact h
theorem RKs.length {κ : Type} : ∀ {l : List (κ × PV)} {vs : List (κ × V)}, RKs W H ads l vs → vs.length = l.length
  | [], _, h => by rw [h.nil_eq]; rfl
  | (k, p) :: r, _, h => by
    obtain ⟨v, t, rfl, _, h2⟩ := h.uncons
    rw [List.length_cons, List.length_cons, RKs.length h2]
theorem RKs.append {κ : Type} : ∀ {l m : List (κ × PV)} {vs ws : List (κ × V)}, RKs W H ads l vs → RKs W H ads m ws → RKs W H ads (l ++ m) (vs ++ ws)
  | [], m, _, ws, h, k => by rw [h.nil_eq]; exact k
  | (q, p) :: r, m, _, ws, h, k => by
    obtain ⟨v, t, rfl, h1, h2⟩ := h.uncons
    exact .cons h1 (RKs.append h2 k)

/-! ### dicts -/
def ROp (W : Wd) (H : Hp) (ads : List Addr) : Option PV → Option V → Prop
  | some p, some v => RV W H ads p v
  | none, none => True
  | _, _ => False
theorem RKs.look {κ : Type} [DecidableEq κ] (k : κ) : ∀ {l : List (κ × PV)} {vs : List (κ × V)}, RKs W H ads l vs → ROp W H ads (look l k) (valV vs k)
  | [], _, h => by rw [h.nil_eq]; exact True.intro
  | (q, p) :: r, _, h => by
    obtain ⟨v, t, rfl, h1, h2⟩ := h.uncons
    by_cases e : q = k
    · have e1 : Vm.look ((q, p) :: r) k = some p := by unfold Vm.look; simp [List.find?_cons, e]
      rw [e1, valV_pos (p := (q, v)) e]
      exact h1
    · have e1 : Vm.look ((q, p) :: r) k = Vm.look r k := by unfold Vm.look; simp [List.find?_cons, e]
      rw [e1, valV_neg (p := (q, v)) e]
      exact RKs.look k h2
theorem RKs.any {κ : Type} [DecidableEq κ] (k : κ) : ∀ {l : List (κ × PV)} {vs : List (κ × V)}, RKs W H ads l vs → (vs.any fun kv => decide (kv.1 = k)) = l.any fun kv => decide (kv.1 = k)
  | [], _, h => by rw [h.nil_eq]; rfl
  | (q, p) :: r, _, h => by
    obtain ⟨v, t, rfl, h1, h2⟩ := h.uncons
    rw [List.any_cons, List.any_cons, RKs.any k h2]
theorem RKs.repl {κ : Type} [DecidableEq κ] (k : κ) {y : PV} {u : V} (hy : RV W H ads y u) : ∀ {l : List (κ × PV)} {vs : List (κ × V)}, RKs W H ads l vs →
    RKs W H ads (l.map fun kv => if kv.1 = k then (kv.1, y) else kv) (vs.map fun kv => if kv.1 = k then (kv.1, u) else kv)
  | [], _, h => by rw [h.nil_eq]; exact .nil
  | (q, p) :: r, _, h => by
    obtain ⟨v, t, rfl, h1, h2⟩ := h.uncons
    rw [List.map_cons, List.map_cons]
    by_cases e : q = k
    · rw [if_pos e, if_pos e]
      exact .cons hy (RKs.repl k hy h2)
    · rw [if_neg e, if_neg e]
      exact .cons h1 (RKs.repl k hy h2)
theorem RKs.put {κ : Type} [DecidableEq κ] (k : κ) {y : PV} {u : V} (hy : RV W H ads y u) {l : List (κ × PV)} {vs : List (κ × V)} (h : RKs W H ads l vs) : RKs W H ads (putD l k y) (putK vs k u) := by
  unfold putD putK
  rw [h.any k]
  split
  · exact h.repl k hy
  · exact h.append (.cons hy .nil)
theorem RKs.merge {κ : Type} [DecidableEq κ] : ∀ {m : List (κ × PV)} {ms : List (κ × V)} {l : List (κ × PV)} {vs : List (κ × V)}, RKs W H ads m ms → RKs W H ads l vs →
    RKs W H ads (mergeD l m) (ms.foldl (fun acc kv => putK acc kv.1 kv.2) vs)
  | [], _, l, vs, h, k => by rw [h.nil_eq]; exact k
  | (q, p) :: r, _, l, vs, h, k => by
    obtain ⟨v, t, rfl, h1, h2⟩ := h.uncons
    show RKs W H ads (mergeD (putD l q p) r) (t.foldl (fun acc kv => putK acc kv.1 kv.2) (putK vs q v))
    exact RKs.merge (m := r) (ms := t) h2 (k.put q h1)
/-! fields -/
theorem RKs.lookup : ∀ {fs : List (Str × PV)} {vs : List (Str × V)} (f : Str), RKs W H ads fs vs → ROp W H ads (fs.lookup f) (vs.lookup f)
  | [], _, f, h => by rw [h.nil_eq]; exact True.intro
  | (q, p) :: r, _, f, h => by
    obtain ⟨v, t, rfl, h1, h2⟩ := h.uncons
    rw [List.lookup_cons, List.lookup_cons]
    cases e : f == q with
    | true => exact h1
    | false => exact RKs.lookup f h2
theorem RKs.setF {f : Str} {y : PV} {u : V} (hy : RV W H ads y u) : ∀ {fs : List (Str × PV)} {vs : List (Str × V)}, RKs W H ads fs vs → RKs W H ads (setF f y fs) (putF f u vs)
  | [], _, h => by rw [h.nil_eq]; exact .cons hy .nil
  | (q, p) :: r, _, h => by
    obtain ⟨v, t, rfl, h1, h2⟩ := h.uncons
    show RKs W H ads (if q = f then (q, y) :: r else (q, p) :: Vm.setF f y r) (if q = f then (q, u) :: t else (q, v) :: putF f u t)
    by_cases e : q = f
    · rw [if_pos e, if_pos e]
      exact .cons hy h2
    · rw [if_neg e, if_neg e]
      exact .cons h1 (RKs.setF hy h2)
theorem setF_all {f : Str} {y : PV} {q : Str → Bool} (hf : q f = true) : ∀ {fs : List (Str × PV)}, fs.all (fun p => q p.1) = true → (setF f y fs).all (fun p => q p.1) = true
  | [], _ => by simp [setF, hf]
  | (k, p) :: r, h => by
    rw [List.all_cons, Bool.and_eq_true] at h
    unfold setF
    by_cases e : k = f
    · rw [if_pos e, List.all_cons, h.1, h.2]; rfl
    · rw [if_neg e, List.all_cons, h.1, setF_all hf h.2]; rfl
theorem setF_len (f : Str) (y : PV) : ∀ fs : List (Str × PV), (setF f y fs).length ≤ fs.length + 1
  | [] => Nat.le_refl _
  | (k, p) :: r => by
    unfold setF
    have := setF_len f y r
    split <;> simp only [List.length_cons] <;> omega
/-- a name that is no attribute is none of an instance's -/
theorem no_field {q : Str → Bool} {m : Str} (hm : q m = false) : ∀ {fs : List (Str × PV)} {vs : List (Str × V)}, RKs W H ads fs vs → fs.all (fun p => q p.1) = true → vs.lookup m = none
  | [], _, h, _ => by rw [h.nil_eq]; rfl
  | (k, p) :: r, _, h, ha => by
    obtain ⟨v, t, rfl, h1, h2⟩ := h.uncons
    rw [List.all_cons, Bool.and_eq_true] at ha
    rw [List.lookup_cons]
    have e : (m == k) = false := by
      cases z : m == k with
      | false => rfl
      | true =>
        have := eq_of_beq z
        subst this
        rw [ha.1] at hm
        cases hm
    rw [e]
    exact no_field hm h2 ha.2

/-! ### the heap -/
theorem RO.some {a : Addr} {o : GO} (h : RO W H ads a o) : ∃ u, H a = some u := by
  cases o with
  | lst l => obtain ⟨vs, e, _⟩ := h; exact ⟨_, e⟩
  | rol l => obtain ⟨vs, e, _⟩ := h; rcases e with e | ⟨o, e⟩ <;> exact ⟨_, e⟩
  | dk l => obtain ⟨vs, e, _⟩ := h; exact ⟨_, e⟩
  | dt l => obtain ⟨vs, e, _⟩ := h; exact ⟨_, e⟩
  | ins c fs => obtain ⟨C, dx, fs', e, _⟩ := h; exact ⟨_, e⟩
theorem RO.keep {a : Addr} {o : GO} (h : RO W H ads a o) (e : Ext W H ads H' ads') (k : H' a = H a) : RO W H' ads' a o := by
  cases o with
  | lst l => obtain ⟨vs, h1, h2⟩ := h; exact ⟨vs, k.trans h1, h2.mono e⟩
  | rol l =>
    obtain ⟨vs, h1, h2⟩ := h
    refine ⟨vs, ?_, h2.mono e⟩
    rcases h1 with h1 | ⟨o, h1⟩
    · exact .inl (k.trans h1)
    · exact .inr ⟨o, k.trans h1⟩
  | dk l => obtain ⟨vs, h1, h2⟩ := h; exact ⟨vs, k.trans h1, h2.mono e⟩
  | dt l => obtain ⟨vs, h1, h2⟩ := h; exact ⟨vs, k.trans h1, h2.mono e⟩
  | ins c fs => obtain ⟨C, dx, fs', h1, h2, h3, h4⟩ := h; exact ⟨C, dx, fs', k.trans h1, h2, h3.mono e, h4⟩
theorem RG.at_ {g : G} (r : RG W H ads g) {n : Nat} {o : GO} (h : g[n]? = some o) : ∃ a, ads[n]? = some a ∧ RO W H ads a o := by
  have hl := (List.getElem?_eq_some_iff.mp h).1
  rw [← r.len] at hl
  exact ⟨_, List.getElem?_eq_getElem hl, r.ob n o _ h (List.getElem?_eq_getElem hl)⟩
theorem RG.mem {g : G} (r : RG W H ads g) {a : Addr} (h : a ∈ ads) : ∃ u, H a = some u := by
  obtain ⟨n, hn, e⟩ := List.getElem_of_mem h
  have hl : n < g.length := by rw [← r.len]; exact hn
  exact (r.ob n _ a (List.getElem?_eq_getElem hl) (by rw [List.getElem?_eq_getElem hn, e])).some
theorem RG.fresh {g : G} (r : RG W H ads g) {p : Addr} (h : H p = none) : p ∉ ads := fun m => by
  obtain ⟨u, e⟩ := r.mem m
  rw [h] at e
  cases e
theorem sqt_upd {p : Addr} {o : HO} (h : ∀ vs, ¬ Rd H p (.tup vs)) {a : Addr} {vs : List V} (s : H a = some (.tup vs)) : upd H p o a = some (.tup vs) := by
  have ne : a ≠ p := by rintro rfl; exact h vs (.inl s)
  rw [upd_ne ne]; exact s
theorem no_tup_none {p : Addr} (h : H p = none) (vs : List V) : ¬ Rd H p (.tup vs) := by
  rintro (s | ⟨o, s⟩) <;> (rw [h] at s; cases s)
/-- a new tuple -/
theorem RG.tup {g : G} (r : RG W H ads g) {p : Addr} {o : HO} (h : H p = none) : RG W (upd H p o) ads g ∧ Ext W H ads (upd H p o) ads := by
  have e : Ext W H ads (upd H p o) ads := ⟨⟨[], by simp⟩, fun a vs s => sqt_upd (no_tup_none h) s⟩
  refine ⟨⟨r.len, r.nd, fun n q a h1 h2 => (r.ob n q a h1 h2).keep e (upd_ne ?_)⟩, e⟩
  rintro rfl
  obtain ⟨u, z⟩ := (r.ob n q a h1 h2).some
  rw [h] at z
  cases z
/-- a new mutable thing -/
theorem RG.new {g : G} (r : RG W H ads g) {p : Addr} {o : HO} {go : GO} (h : H p = none) (hn : Ext W H ads (upd H p o) (ads ++ [p]) → RO W (upd H p o) (ads ++ [p]) p go) :
    RG W (upd H p o) (ads ++ [p]) (g ++ [go]) ∧ Ext W H ads (upd H p o) (ads ++ [p]) := by
  have e : Ext W H ads (upd H p o) (ads ++ [p]) := ⟨⟨[p], rfl⟩, fun a vs s => sqt_upd (no_tup_none h) s⟩
  refine ⟨⟨by rw [List.length_append, List.length_append, r.len]; rfl, ?_, fun n q a h1 h2 => ?_⟩, e⟩
  · rw [List.nodup_append]
    refine ⟨r.nd, by simp, fun x hx y hy => ?_⟩
    rw [List.mem_singleton] at hy
    rw [hy]
    rintro rfl
    exact r.fresh h hx
  · by_cases hl : n < g.length
    · rw [List.getElem?_append_left hl] at h1
      rw [List.getElem?_append_left (by rw [r.len]; exact hl)] at h2
      refine (r.ob n q a h1 h2).keep e (upd_ne ?_)
      rintro rfl
      obtain ⟨u, z⟩ := (r.ob n q a h1 h2).some
      rw [h] at z
      cases z
    · have hl' := (List.getElem?_eq_some_iff.mp h1).1
      rw [List.length_append, List.length_singleton] at hl'
      have en : n = g.length := by omega
      subst en
      rw [List.getElem?_append_right (Nat.le_refl _), Nat.sub_self, List.getElem?_cons_zero] at h1
      rw [← r.len, List.getElem?_append_right (Nat.le_refl _), Nat.sub_self, List.getElem?_cons_zero] at h2
      cases h1
      cases h2
      exact hn e
theorem nodup_ix_addr {l : List Addr} (hN : l.Nodup) {i j : Nat} {x : Addr} (a : l[i]? = some x) (b : l[j]? = some x) : i = j := by
  obtain ⟨h1, e1⟩ := List.getElem?_eq_some_iff.mp a
  obtain ⟨h2, e2⟩ := List.getElem?_eq_some_iff.mp b
  exact (List.getElem_inj hN).mp (e1.trans e2.symm)
/-- something mutable is changed -/
theorem RG.put {g : G} (r : RG W H ads g) {n : Nat} {a : Addr} {o : HO} {go : GO} (h : ads[n]? = some a) (ht : ∀ vs, ¬ Rd H a (.tup vs)) (hn : Ext W H ads (upd H a o) ads → RO W (upd H a o) ads a go) :
    RG W (upd H a o) ads (g.set n go) ∧ Ext W H ads (upd H a o) ads := by
  have e : Ext W H ads (upd H a o) ads := ⟨⟨[], by simp⟩, fun b vs s => sqt_upd ht s⟩
  refine ⟨⟨by rw [List.length_set, r.len], r.nd, fun m q b h1 h2 => ?_⟩, e⟩
  by_cases hm : m = n
  · subst hm
    have hl := (List.getElem?_eq_some_iff.mp h1).1
    rw [List.length_set] at hl
    rw [List.getElem?_set_self hl] at h1
    cases h1
    rw [h] at h2
    cases h2
    exact hn e
  · rw [List.getElem?_set_ne (Ne.symm hm)] at h1
    refine (r.ob m q b h1 h2).keep e (upd_ne ?_)
    rintro rfl
    exact hm (nodup_ix_addr r.nd h2 h)
theorem no_tup {a : Addr} {o : HO} (h : H a = some o) (k : ∀ vs, o ≠ .tup vs) (k2 : ∀ q vs, o ≠ .frz q (.tup vs)) (vs : List V) : ¬ Rd H a (.tup vs) := by
  rintro (s | ⟨q, s⟩)
  · rw [h] at s
    exact k vs (Option.some.inj s)
  · rw [h] at s
    exact k2 q vs (Option.some.inj s)
end
end Vm
end

section
set_option maxRecDepth 100000
set_option maxHeartbeats 4000000
/-! VmC: each operation on pure values is what the model does. -/
namespace Vm
open PySem L2 PySem.Spec PyProof.Rows

theorem big_line : big ≤ sizeLine := by rw [sizeLine_eq]; decide
theorem le_line {n : Nat} (h : n ≤ big) : n ≤ sizeLine := Nat.le_trans h big_line
theorem lt_line {n : Nat} (h : n < big) : n < sizeLine := Nat.lt_of_lt_of_le h big_line

/-- what is wanted of a result -/
def Kn (W : Wd) (H : Hp) (ads : List Addr) (v : PV) (g : G) (Q : VK) : Prop := ∀ v' H' ads', Ext W H ads H' ads' → RG W H' ads' g → RV W H' ads' v v' → Q v' H'
def rP2 (W : Wd) (f : Op2) : R2 := fun x y H Q => ∃ p q g ads r g', f p q g = some (r, g') ∧ RG W H ads g ∧ RV W H ads p x ∧ RV W H ads q y ∧ Kn W H ads r g' Q
def rP1 (W : Wd) (f : Op1) : V → Hp → VK → Prop := fun x H Q => ∃ p g ads r g', f p g = some (r, g') ∧ RG W H ads g ∧ RV W H ads p x ∧ Kn W H ads r g' Q
def rPN (W : Wd) (f : OpN) : List V → Hp → VK → Prop := fun xs H Q => ∃ ps g ads r g', f ps g = some (r, g') ∧ RG W H ads g ∧ RVs W H ads ps xs ∧ Kn W H ads r g' Q
/-- a method: the receiver, the arguments -/
def rPM (W : Wd) (f : OpN) : V → List V → Hp → VK → Prop := fun x xs H Q => rPN W f (x :: xs) H Q

section
variable {W : Wd} {H : Hp} {ads : List Addr} {g : G} {v : V} {vs : List V} {Q : VK}
theorem rv_non (h : RV W H ads .non v) : v = .non := by unfold RV at h; exact h
theorem rv_bl {b : Bool} (h : RV W H ads (.bl b) v) : v = .bl b := by unfold RV at h; exact h
theorem rv_int {i : Int} (h : RV W H ads (.int i) v) : v = .int i := by unfold RV at h; exact h
theorem rv_str {i : Str} (h : RV W H ads (.str i) v) : v = .str i := by unfold RV at h; exact h
theorem rv_tup {l : List PV} (h : RV W H ads (.tup l) v) : ∃ a vs, v = .ref a ∧ H a = some (.tup vs) ∧ RVs W H ads l vs := by unfold RV at h; exact h
theorem rv_kt {l : List PV} (h : RV W H ads (.kt l) v) : ∃ a vs, v = .ref a ∧ SqT W.K H a vs ∧ RVs W H ads l vs := by
  unfold RV at h
  obtain ⟨a, vs, rfl, h1, h2⟩ := h
  exact ⟨a, vs, rfl, .inr h1, h2⟩
theorem rv_ref {n : Nat} (h : RV W H ads (.ref n) v) : ∃ a, v = .ref a ∧ ads[n]? = some a := by unfold RV at h; exact h
theorem rv_sd {k : List (Str × Str)} (h : RV W H ads (.sd k) v) : ∃ a, v = .ref a ∧ SD W a k := by unfold RV at h; exact h
theorem mk_int (i : Int) : RV W H ads (.int i) (.int i) := by unfold RV; rfl
theorem mk_bl (i : Bool) : RV W H ads (.bl i) (.bl i) := by unfold RV; rfl
theorem mk_str (i : Str) : RV W H ads (.str i) (.str i) := by unfold RV; rfl
theorem mk_non : RV W H ads .non .non := by unfold RV; rfl
theorem mk_tup {a : Addr} {l : List PV} {xs : List V} (h : H a = some (.tup xs)) (r : RVs W H ads l xs) : RV W H ads (.tup l) (.ref a) := by unfold RV; exact ⟨a, xs, rfl, h, r⟩
theorem mk_ref {a : Addr} {n : Nat} (h : ads[n]? = some a) : RV W H ads (.ref n) (.ref a) := by unfold RV; exact ⟨a, rfl, h⟩
theorem Kn.here {p : PV} (k : Kn W H ads p g Q) (hg : RG W H ads g) (r : RV W H ads p v) : Q v H := k v H ads Ext.refl hg r
/-- a new tuple comes -/
theorem Kn.tup {l : List PV} {xs : List V} (k : Kn W H ads (.tup l) g Q) (hg : RG W H ads g) (r : RVs W H ads l xs) (p : Addr) (hp : H p = none) : Q (.ref p) (upd H p (.tup xs)) := by
  obtain ⟨g1, e⟩ := hg.tup (o := .tup xs) hp
  exact k _ _ _ e g1 (mk_tup upd_same (r.mono e))
/-- a new list comes -/
theorem Kn.lst {l : List PV} {xs : List V} (k : Kn W H ads (.ref g.length) (g ++ [.lst l]) Q) (hg : RG W H ads g) (r : RVs W H ads l xs) (p : Addr) (hp : H p = none) : Q (.ref p) (upd H p (.lst xs)) := by
  obtain ⟨g1, e⟩ := hg.new (o := .lst xs) (go := .lst l) hp fun e => ⟨xs, upd_same, r.mono e⟩
  refine k _ _ _ e g1 (mk_ref ?_)
  rw [← hg.len, List.getElem?_append_right (Nat.le_refl _), Nat.sub_self]
  rfl
theorem lst_at {r : Nat} {l : List PV} (hg : RG W H ads g) (h : lstOf (.ref r) g = some l) (hv : RV W H ads (.ref r) v) : ∃ a xs, v = .ref a ∧ ads[r]? = some a ∧ g[r]? = some (.lst l) ∧ H a = some (.lst xs) ∧ RVs W H ads l xs := by
  obtain ⟨a, rfl, ha⟩ := rv_ref hv
  simp only [lstOf] at h
  split at h
  · rename_i m e
    cases h
    obtain ⟨xs, e1, e2⟩ := hg.ob _ _ _ e ha
    exact ⟨a, xs, rfl, ha, e, e1, e2⟩
  · cases h
/-- a list or a tuple that is read -/
theorem seq_at {p : PV} {l : List PV} (hg : RG W H ads g) (h : seqOf p g = some l) (hv : RV W H ads p v) : ∃ a xs, v = .ref a ∧ (SqL W.K H a xs ∨ SqT W.K H a xs) ∧ RVs W H ads l xs := by
  cases p with
  | tup m =>
    obtain ⟨a, xs, rfl, h1, h2⟩ := rv_tup hv
    cases h
    exact ⟨a, xs, rfl, .inr (.of h1), h2⟩
  | kt m =>
    obtain ⟨a, xs, rfl, h1, h2⟩ := rv_kt hv
    cases h
    exact ⟨a, xs, rfl, .inr h1, h2⟩
  | ref r =>
    obtain ⟨a, rfl, ha⟩ := rv_ref hv
    simp only [seqOf] at h
    split at h
    · rename_i m e
      cases h
      obtain ⟨xs, e1, e2⟩ := hg.ob _ _ _ e ha
      exact ⟨a, xs, rfl, .inl (.of e1), e2⟩
    · rename_i m e
      cases h
      obtain ⟨xs, e1, e2⟩ := hg.ob _ _ _ e ha
      exact ⟨a, xs, rfl, .inl (.inl e1), e2⟩
    · cases h
  | _ => cases h
theorem seqL_at {r : Nat} {l : List PV} (hg : RG W H ads g) (h : seqOf (.ref r) g = some l) (hv : RV W H ads (.ref r) v) : ∃ a xs, v = .ref a ∧ SqL W.K H a xs ∧ RVs W H ads l xs := by
  obtain ⟨a, rfl, ha⟩ := rv_ref hv
  simp only [seqOf] at h
  split at h
  · rename_i m e
    cases h
    obtain ⟨xs, e1, e2⟩ := hg.ob _ _ _ e ha
    exact ⟨a, xs, rfl, .of e1, e2⟩
  · rename_i m e
    cases h
    obtain ⟨xs, e1, e2⟩ := hg.ob _ _ _ e ha
    exact ⟨a, xs, rfl, .inl e1, e2⟩
  · cases h
theorem ads_lt (hg : RG W H ads g) {r : Nat} {o : GO} (h : g[r]? = some o) : ∃ a, ads[r]? = some a := by
  obtain ⟨a, h1, _⟩ := hg.at_ h
  exact ⟨a, h1⟩
theorem rvs1 {p : PV} {xs : List V} (h : RVs W H ads [p] xs) : ∃ v, xs = [v] ∧ RV W H ads p v := by
  obtain ⟨v, t, rfl, h1, h2⟩ := h.uncons
  rw [h2.nil_eq]
  exact ⟨v, rfl, h1⟩
theorem rvs2 {p q : PV} {xs : List V} (h : RVs W H ads [p, q] xs) : ∃ v w, xs = [v, w] ∧ RV W H ads p v ∧ RV W H ads q w := by
  obtain ⟨v, t, rfl, h1, h2⟩ := h.uncons
  obtain ⟨w, rfl, h3⟩ := rvs1 h2
  exact ⟨v, w, rfl, h1, h3⟩
theorem rvs3 {p q r : PV} {xs : List V} (h : RVs W H ads [p, q, r] xs) : ∃ v w u, xs = [v, w, u] ∧ RV W H ads p v ∧ RV W H ads q w ∧ RV W H ads r u := by
  obtain ⟨v, t, rfl, h1, h2⟩ := h.uncons
  obtain ⟨w, u, rfl, h3, h4⟩ := rvs2 h2
  exact ⟨v, w, u, rfl, h1, h3, h4⟩
end

section
variable {X : Cx} {W : Wd}
theorem OpR.imp {f : Value → Value → Sem Value} {r r' : R2} (h : OpR X f r) (k : ∀ x y H Q, r' x y H Q → r x y H Q) : OpR X f r' :=
  fun pins s σ H x y v u Q I rx ry q => h pins s σ H x y v u Q I rx ry (k _ _ _ _ q)

theorem ok_add (hK : W.K = X.K) : OpR X (binaryOp .Add) (rP2 W opAdd) := by
  intro pins s σ H x y v u Q I rx ry ⟨p, q, g, ads, r, g', hf, hg, hp, hq, k⟩
  unfold opAdd at hf
  split at hf
  · cases hf
    obtain rfl := rv_int hp
    obtain rfl := rv_int hq
    exact op_add pins s σ H _ _ v u Q I rx ry ⟨_, _, rfl, rfl, k.here hg (mk_int _)⟩
  · split at hf
    · rename_i hz
      cases hf
      obtain rfl := rv_str hp
      obtain rfl := rv_str hq
      exact op_add_str pins s σ H _ _ v u Q I rx ry ⟨_, _, rfl, rfl, le_line hz, k.here hg (mk_str _)⟩
    · cases hf
  · split at hf
    · rename_i hz
      cases hf
      obtain ⟨a, xs, rfl, ha, ra⟩ := rv_tup hp
      obtain ⟨b, ys, rfl, hb, rb⟩ := rv_tup hq
      have r1 := ra.append rb
      refine op_catA pins s σ H _ _ v u Q I rx ry ⟨a, b, xs, ys, rfl, rfl, .of ha, .of hb, ?_, fun e => ?_, fun _ e => ?_, fun _ _ p hp => k.tup hg r1 p hp⟩
      · rw [ra.length, rb.length]; exact le_line hz
      · subst e
        exact k.here hg (mk_tup hb r1)
      · subst e
        rw [List.append_nil] at r1
        exact k.here hg (mk_tup ha r1)
    · cases hf
  · split at hf
    · rename_i e1 e2
      split at hf
      · rename_i hz
        cases hf
        obtain ⟨a, xs, rfl, _, _, ha, ra⟩ := lst_at hg e1 hp
        obtain ⟨b, ys, rfl, _, _, hb, rb⟩ := lst_at hg e2 hq
        refine op_cat pins s σ H _ _ v u Q I rx ry ⟨a, b, xs, ys, rfl, rfl, ha, hb, ?_, fun p hp => k.lst hg (ra.append rb) p hp⟩
        rw [ra.length, rb.length]; exact le_line hz
      · cases hf
    · cases hf
  · cases hf
theorem ok_sub : OpR X (binaryOp .Sub) (rP2 W opSub) := by
  intro pins s σ H x y v u Q I rx ry ⟨p, q, g, ads, r, g', hf, hg, hp, hq, k⟩
  unfold opSub at hf
  split at hf
  · cases hf
    obtain rfl := rv_int hp
    obtain rfl := rv_int hq
    exact op_sub pins s σ H _ _ v u Q I rx ry ⟨_, _, rfl, rfl, k.here hg (mk_int _)⟩
  · cases hf
theorem ok_mul : OpR X (binaryOp .Mult) (rP2 W opMul) := by
  intro pins s σ H x y v u Q I rx ry ⟨p, q, g, ads, r, g', hf, hg, hp, hq, k⟩
  unfold opMul at hf
  split at hf
  · split at hf
    · rename_i i j hz
      cases hf
      obtain rfl := rv_int hp
      obtain rfl := rv_int hq
      refine op_mul pins s σ H _ _ v u Q I rx ry ⟨_, _, rfl, rfl, ?_, k.here hg (mk_int _)⟩
      unfold small64 at hz
      rw [Bool.or_eq_true, Bool.and_eq_true, Bool.and_eq_true, decide_eq_true_eq, decide_eq_true_eq, decide_eq_true_eq, decide_eq_true_eq] at hz
      exact hz
    · cases hf
  · split at hf
    · rename_i e1
      split at hf
      · rename_i hz
        cases hf
        obtain ⟨a, xs, rfl, _, _, ha, ra⟩ := lst_at hg e1 hp
        obtain rfl := rv_int hq
        refine op_rep pins s σ H _ _ v u Q I rx ry ⟨a, _, xs, rfl, rfl, ha, by omega, by omega, ?_, fun p hp => k.lst hg ?_ p hp⟩
        · rw [ra.length]; exact le_line hz.2.2
        · clear k
          generalize Int.toNat _ = n
          induction n with
          | zero => exact .nil
          | succ n ih =>
            rw [List.replicate_succ, List.replicate_succ, List.flatten_cons, List.flatten_cons]
            exact ra.append ih
      · cases hf
    · cases hf
  · split at hf
    · cases hf
    · rename_i hne
      obtain ⟨a, xs, rfl, h1, ra⟩ := rv_tup hp
      obtain rfl := rv_int hq
      have ne : xs ≠ [] := fun e => hne (by rw [← ra.isEmpty, e]; rfl)
      split at hf
      · cases hf
        exact op_rep01 pins s σ H _ _ v u Q I rx ry ⟨a, _, xs, rfl, rfl, .of h1, ne, .inl ⟨by assumption, k.here hg hp⟩⟩
      · split at hf
        · cases hf
          exact op_rep01 pins s σ H _ _ v u Q I rx ry ⟨a, _, xs, rfl, rfl, .of h1, ne, .inr ⟨by assumption, fun p hp => k.tup hg .nil p hp⟩⟩
        · split at hf
          · rename_i hz
            cases hf
            refine op_repT pins s σ H _ _ v u Q I rx ry ⟨a, _, xs, rfl, rfl, .of h1, ne, by omega, by omega, by rw [ra.length]; omega, fun p hp => k.tup hg ?_ p hp⟩
            clear k
            generalize Int.toNat _ = n
            induction n with
            | zero => exact .nil
            | succ n ih =>
              rw [List.replicate_succ, List.replicate_succ, List.flatten_cons, List.flatten_cons]
              exact ra.append ih
          · cases hf
  · cases hf
theorem ok_div : OpR X (binaryOp .FloorDiv) (rP2 W opDiv) := by
  intro pins s σ H x y v u Q I rx ry ⟨p, q, g, ads, r, g', hf, hg, hp, hq, k⟩
  unfold opDiv at hf
  split at hf
  · split at hf
    · rename_i hz
      cases hf
      obtain rfl := rv_int hp
      obtain rfl := rv_int hq
      exact op_fdiv pins s σ H _ _ v u Q I rx ry ⟨_, _, rfl, rfl, hz, k.here hg (mk_int _)⟩
    · cases hf
  · cases hf
theorem ok_mod : OpR X (binaryOp .Mod) (rP2 W opMod) := by
  intro pins s σ H x y v u Q I rx ry ⟨p, q, g, ads, r, g', hf, hg, hp, hq, k⟩
  unfold opMod at hf
  split at hf
  · split at hf
    · rename_i hz
      cases hf
      obtain rfl := rv_int hp
      obtain rfl := rv_int hq
      exact op_mod pins s σ H _ _ v u Q I rx ry ⟨_, _, rfl, rfl, hz, k.here hg (mk_int _)⟩
    · cases hf
  · cases hf
theorem ok_pow : OpR X (binaryOp .Pow) (rP2 W opPow) := by
  intro pins s σ H x y v u Q I rx ry ⟨p, q, g, ads, r, g', hf, hg, hp, hq, k⟩
  unfold opPow at hf
  split at hf
  · split at hf
    · rename_i hz
      cases hf
      obtain rfl := rv_int hp
      obtain rfl := rv_int hq
      exact op_pow pins s σ H _ _ v u Q I rx ry ⟨_, _, rfl, rfl, ⟨hz.1.1, hz.1.2, hz.2⟩, k.here hg (mk_int _)⟩
    · cases hf
  · cases hf
theorem ok_neg : UnR X (unaryOp .USub) (rP1 W unNeg) := by
  intro pins s σ H x v Q I rx ⟨p, g, ads, r, g', hf, hg, hp, k⟩
  unfold unNeg at hf
  split at hf
  · cases hf
    obtain rfl := rv_int hp
    exact un_neg pins s σ H _ v Q I rx ⟨_, rfl, k.here hg (mk_int _)⟩
  · cases hf
theorem iok_add : OpR X (inplaceOp .Add) (rP2 W opIAdd) := by
  intro pins s σ H x y v u Q I rx ry ⟨p, q, g, ads, r, g', hf, hg, hp, hq, k⟩
  unfold opIAdd at hf
  split at hf
  · cases hf
    obtain rfl := rv_int hp
    obtain rfl := rv_int hq
    exact iop_add pins s σ H _ _ v u Q I rx ry ⟨_, _, rfl, rfl, k.here hg (mk_int _)⟩
  · split at hf
    · rename_i hz
      cases hf
      obtain rfl := rv_str hp
      obtain rfl := rv_str hq
      exact iop_add_str pins s σ H _ _ v u Q I rx ry ⟨_, _, rfl, rfl, le_line hz, k.here hg (mk_str _)⟩
    · cases hf
  · cases hf
theorem iok_sub : OpR X (inplaceOp .Sub) (rP2 W opSub) := by
  intro pins s σ H x y v u Q I rx ry ⟨p, q, g, ads, r, g', hf, hg, hp, hq, k⟩
  unfold opSub at hf
  split at hf
  · cases hf
    obtain rfl := rv_int hp
    obtain rfl := rv_int hq
    exact iop_sub pins s σ H _ _ v u Q I rx ry ⟨_, _, rfl, rfl, k.here hg (mk_int _)⟩
  · cases hf

/-! ### comparisons -/
theorem ok_cmpI {F : Value → Value → Sem Value} {c : Int → Int → Bool} (h : OpR X F (rI0 fun i j => .bl (c i j))) : OpR X F (rP2 W (cmpI c)) := by
  intro pins s σ H x y v u Q I rx ry ⟨p, q, g, ads, r, g', hf, hg, hp, hq, k⟩
  unfold cmpI at hf
  split at hf
  · cases hf
    obtain rfl := rv_int hp
    obtain rfl := rv_int hq
    exact h pins s σ H _ _ v u Q I rx ry ⟨_, _, rfl, rfl, k.here hg (mk_bl _)⟩
  · cases hf
mutual
theorem dat_ok {H : Hp} {ads : List Addr} {g : G} (hg : RG W H ads g) : ∀ (n : Nat) {p : PV} {v : V} {d : PyData}, dat g n p = some d → RV W H ads p v → Dp W.K H v d
  | 0, _, _, _, h, _ => by unfold dat at h; cases h
  | n + 1, .non, _, _, h, r => by unfold dat at h; cases h; rw [rv_non r]; exact .non
  | n + 1, .bl b, _, _, h, r => by unfold dat at h; cases h; rw [rv_bl r]; exact .bl b
  | n + 1, .int b, _, _, h, r => by unfold dat at h; cases h; rw [rv_int r]; exact .int b
  | n + 1, .str b, _, _, h, r => by unfold dat at h; cases h; rw [rv_str r]; exact .str b
  | n + 1, .tup l, _, _, h, r => by
    unfold dat at h
    split at h
    · rename_i ds e
      cases h
      obtain ⟨a, vs, rfl, h1, h2⟩ := rv_tup r
      exact .tup (.of h1) (dats_ok hg n e h2)
    · cases h
  | n + 1, .kt l, _, _, h, r => by
    unfold dat at h
    split at h
    · rename_i ds e
      cases h
      obtain ⟨a, vs, rfl, h1, h2⟩ := rv_kt r
      exact .tup h1 (dats_ok hg n e h2)
    · cases h
  | n + 1, .ref i, _, _, h, r => by
    unfold dat at h
    obtain ⟨a, rfl, ha⟩ := rv_ref r
    split at h
    · rename_i l e0
      split at h
      · rename_i ds e
        cases h
        obtain ⟨xs, e1, e2⟩ := hg.ob _ _ _ e0 ha
        exact .lst (.of e1) (dats_ok hg n e e2)
      · cases h
    · rename_i l e0
      split at h
      · rename_i ds e
        cases h
        obtain ⟨xs, e1, e2⟩ := hg.ob _ _ _ e0 ha
        exact .lst (.inl e1) (dats_ok hg n e e2)
      · cases h
    · cases h
  | n + 1, .sd _, _, _, h, _ => by unfold dat at h; cases h
termination_by structural n => n
theorem dats_ok {H : Hp} {ads : List Addr} {g : G} (hg : RG W H ads g) : ∀ (n : Nat) {l : List PV} {vs : List V} {ds : List PyData}, dats g n l = some ds → RVs W H ads l vs → DpAll W.K H vs ds
  | 0, _, _, _, h, _ => by unfold dats at h; cases h
  | n + 1, [], _, _, h, r => by unfold dats at h; cases h; rw [r.nil_eq]; exact .nil
  | n + 1, p :: l, _, _, h, r => by
    unfold dats at h
    split at h
    · rename_i d ds e1 e2
      cases h
      obtain ⟨v, t, rfl, h1, h2⟩ := r.uncons
      exact .cons (dat_ok hg n e1 h1) (dats_ok hg n e2 h2)
    · cases h
termination_by structural n => n
end
theorem eqP_ok {H : Hp} {ads : List Addr} {g : G} (hg : RG W H ads g) {p q : PV} {x y : V} {b : Bool} (h : eqP g p q = some b) (hp : RV W H ads p x) (hq : RV W H ads q y) :
    ∃ d e, Dp W.K H x d ∧ Dp W.K H y e ∧ SeqAt.shaped d = true ∧ SeqAt.shaped e = true ∧ b = PyData.eqv d e := by
  unfold eqP at h
  split at h
  · rename_i d e e1 e2
    split at h
    · rename_i hz
      cases h
      rw [Bool.and_eq_true] at hz
      exact ⟨d, e, dat_ok hg _ e1 hp, dat_ok hg _ e2 hq, hz.1, hz.2, rfl⟩
    · cases h
  · cases h
theorem ok_eq (hK : W.K = X.K) (hu : X.A.units + 64 < cLine) : OpR X (compareOp .Eq) (rP2 W opEq) := by
  intro pins s σ H x y v u Q I rx ry ⟨p, q, g, ads, r, g', hf, hg, hp, hq, k⟩
  unfold opEq at hf
  split at hf
  · rename_i b e
    cases hf
    obtain ⟨d, e', h1, h2, h3, h4, rfl⟩ := eqP_ok hg e hp hq
    rw [hK] at h1 h2
    exact op_eqD hu pins s σ H x y v u Q I rx ry ⟨d, e', h1, h2, h3, h4, k.here hg (mk_bl _)⟩
  · cases hf
theorem ok_ne (hK : W.K = X.K) (hu : X.A.units + 64 < cLine) : OpR X (compareOp .NotEq) (rP2 W opNe) := by
  intro pins s σ H x y v u Q I rx ry ⟨p, q, g, ads, r, g', hf, hg, hp, hq, k⟩
  unfold opNe at hf
  split at hf
  · rename_i b e
    cases hf
    obtain ⟨d, e', h1, h2, h3, h4, rfl⟩ := eqP_ok hg e hp hq
    rw [hK] at h1 h2
    exact op_neD hu pins s σ H x y v u Q I rx ry ⟨d, e', h1, h2, h3, h4, k.here hg (mk_bl _)⟩
  · cases hf
theorem ok_isN : OpR X (compareOp .Is) (rP2 W opIsN) := by
  intro pins s σ H x y v u Q I rx ry ⟨p, q, g, ads, r, g', hf, hg, hp, hq, k⟩
  unfold opIsN at hf
  split at hf
  · cases hf
    obtain rfl := rv_non hq
    refine op_isN pins s σ H x _ v u Q I rx ry ⟨rfl, ?_⟩
    refine k.here hg ?_
    cases p with
    | non => obtain rfl := rv_non hp; exact mk_bl _
    | bl b => obtain rfl := rv_bl hp; exact mk_bl _
    | int b => obtain rfl := rv_int hp; exact mk_bl _
    | str b => obtain rfl := rv_str hp; exact mk_bl _
    | tup b => obtain ⟨a, _, rfl, _⟩ := rv_tup hp; exact mk_bl _
    | ref b => obtain ⟨a, rfl, _⟩ := rv_ref hp; exact mk_bl _
    | sd b => obtain ⟨a, rfl, _⟩ := rv_sd hp; exact mk_bl _
    | kt b => obtain ⟨a, _, rfl, _⟩ := rv_kt hp; exact mk_bl _
  · cases hf
theorem ok_notN : OpR X (compareOp .IsNot) (rP2 W opNotN) := by
  intro pins s σ H x y v u Q I rx ry ⟨p, q, g, ads, r, g', hf, hg, hp, hq, k⟩
  unfold opNotN at hf
  split at hf
  · cases hf
    obtain rfl := rv_non hq
    refine op_notN pins s σ H x _ v u Q I rx ry ⟨rfl, ?_⟩
    refine k.here hg ?_
    cases p with
    | non => obtain rfl := rv_non hp; exact mk_bl _
    | bl b => obtain rfl := rv_bl hp; exact mk_bl _
    | int b => obtain rfl := rv_int hp; exact mk_bl _
    | str b => obtain rfl := rv_str hp; exact mk_bl _
    | tup b => obtain ⟨a, _, rfl, _⟩ := rv_tup hp; exact mk_bl _
    | ref b => obtain ⟨a, rfl, _⟩ := rv_ref hp; exact mk_bl _
    | sd b => obtain ⟨a, rfl, _⟩ := rv_sd hp; exact mk_bl _
    | kt b => obtain ⟨a, _, rfl, _⟩ := rv_kt hp; exact mk_bl _
  · cases hf
end
end Vm
end

section
set_option maxRecDepth 100000
set_option maxHeartbeats 4000000
/-! VmD: in, subscripts, slices, built-in functions and methods on pure values. -/
namespace Vm
open PySem L2 PySem.Spec PyProof.Rows

section
variable {X : Cx} {W : Wd}
/-! ### dicts -/
theorem keyOf_rv {H : Hp} {ads : List Addr} {p : PV} {k : Key} {v : V} (h : keyOf p = some k) (r : RV W H ads p v) : v = kV k := by
  cases p with
  | int i => cases h; rw [rv_int r]; rfl
  | str i => cases h; rw [rv_str r]; rfl
  | _ => cases h
theorem keysOf_rv {H : Hp} {ads : List Addr} : ∀ {l : List PV} {ks : List Key} {vs : List V}, keysOf l = some ks → RVs W H ads l vs → vs = ks.map kV
  | [], _, _, h, r => by cases h; rw [r.nil_eq]; rfl
  | p :: l, _, _, h, r => by
    unfold keysOf at h
    split at h
    · rename_i k ks e1 e2
      cases h
      obtain ⟨v, t, rfl, h1, h2⟩ := r.uncons
      rw [keyOf_rv e1 h1, keysOf_rv e2 h2]
      rfl
    · cases h
/-- an empty dict is one of tuples, too -/
theorem retrack {pins : List (Addr × Obj)} {σ : L2.St} {H : Hp} {s : Shared} {a : Addr} (I : L2.Inv X pins σ H s) (h : H a = some (.dK [])) : L2.Inv X pins σ (upd H a (.dT [])) s := by
  obtain ⟨z, hd, vs, rel, dd⟩ := dk_of I.hok h
  cases rel
  obtain ⟨o, es, ep, h1, h2, h3, h4, h5, h6⟩ := dd
  have he : es.toList = [] := by
    cases hh : es.toList with
    | nil => rfl
    | cons e r =>
      rw [hh] at h5
      cases h5
  have J := I.write (x := a) (e := a) (o := .dT []) (t' := s.toks) (h' := s.heap) (by rw [h]; trivial) (.inl rfl) (fun _ _ _ q => q) ⟨o, h1⟩
    (show ObjOk X.prog X.w (upd H a (.dT [])) s.heap a (.dT []) from ⟨z, hd, [], .nil, o, es, ep, h1, h2, h3, he, List.nodup_nil⟩)
  exact J
/-- what a dict has at a key -/
theorem getD_ok (hK : W.K = X.K) (hw : W.w = X.w) (hu : X.A.units + 1 < cLine) {pins : List (Addr × Obj)} {σ : L2.St} {H : Hp} {s : Shared} {ads : List Addr} {g g' : G} {d k : PV} {o : Option PV} {x y : V} {v u : Value}
    (I : L2.Inv X pins σ H s) (hg : RG W H ads g) (hf : getD d k g = some (o, g')) (hd : RV W H ads d x) (hk : RV W H ads k y) (rx : RelV x v) (ry : RelV y u) :
    (∃ a H' o', v = .ref a ∧ x = .ref a ∧ L2.Inv X pins σ H' s ∧ DGet H' a y o' ∧ ROp W H' ads o o' ∧ RG W H' ads g' ∧ Ext W H ads H' ads) ∨
      (∃ a kvs z, d = .sd kvs ∧ v = .ref a ∧ x = .ref a ∧ k = .str z ∧ g' = g ∧ SD W a kvs ∧ o = (look kvs z).map PV.str) := by
  unfold getD at hf
  split at hf
  · rename_i kvs
    obtain ⟨a, rfl, S⟩ := rv_sd hd
    cases rx
    split at hf
    · cases hf
      exact .inr ⟨a, kvs, _, rfl, rfl, rfl, rfl, rfl, S, rfl⟩
    · cases hf
  · rename_i n
    refine .inl ?_
    obtain ⟨a, rfl, ha⟩ := rv_ref hd
    cases rx
    split at hf
    · rename_i kvs e0
      obtain ⟨ks, e1, e2⟩ := hg.ob _ _ _ e0 ha
      split at hf
      · cases hf
        obtain rfl := rv_int hk
        exact ⟨a, H, _, rfl, rfl, I, DGet.k (k := .inl _) e1, e2.look _, hg, .refl⟩
      · cases hf
        obtain rfl := rv_str hk
        exact ⟨a, H, _, rfl, rfl, I, DGet.k (k := .inr _) e1, e2.look _, hg, .refl⟩
      · rename_i l
        split at hf
        · rename_i ks' e3
          cases hf
          rw [e2.nil_eq] at e1
          obtain ⟨b, vs, rfl, hb, hr⟩ := rv_tup hk
          have hks := keysOf_rv e3 hr
          obtain ⟨g1, ex⟩ := hg.put (o := .dT []) (go := .dt []) ha (no_tup e1 (fun _ z => nomatch z) (fun _ _ z => nomatch z)) fun _ => ⟨[], upd_same, .nil⟩
          have hab : b ≠ a := ne_of hb e1 fun z => nomatch z
          exact ⟨a, _, none, rfl, rfl, retrack I e1, DGet.t (k := ks') upd_same (by rw [upd_ne hab, hb, hks]), True.intro, g1, ex⟩
        · cases hf
      · cases hf
    · rename_i kvs e0
      obtain ⟨ks, e1, e2⟩ := hg.ob _ _ _ e0 ha
      split at hf
      · split at hf
        · rename_i l ks' e3
          cases hf
          obtain ⟨b, vs, rfl, hb, hr⟩ := rv_tup hk
          have hks := keysOf_rv e3 hr
          exact ⟨a, H, _, rfl, rfl, I, DGet.t (k := ks') e1 (by rw [hb, hks]), e2.look _, hg, .refl⟩
        · cases hf
      · cases hf
    · cases hf
  · cases hf

theorem flat_rv {H : Hp} {ads : List Addr} {p : PV} {x : V} (h : flatP p = true) (r : RV W H ads p x) : flatV x = true ∧ ∀ {q : PV} {y : V}, flatP q = true → RV W H ads q y → eqV y x = eqF q p := by
  cases p with
  | non =>
    obtain rfl := rv_non r
    refine ⟨rfl, fun {q y} hq rq => ?_⟩
    cases q with
    | non => obtain rfl := rv_non rq; rfl
    | bl b => obtain rfl := rv_bl rq; rfl
    | int b => obtain rfl := rv_int rq; rfl
    | str b => obtain rfl := rv_str rq; rfl
    | _ => cases hq
  | bl b0 =>
    obtain rfl := rv_bl r
    refine ⟨rfl, fun {q y} hq rq => ?_⟩
    cases q with
    | non => obtain rfl := rv_non rq; rfl
    | bl b => obtain rfl := rv_bl rq; rfl
    | int b => obtain rfl := rv_int rq; rfl
    | str b => obtain rfl := rv_str rq; rfl
    | _ => cases hq
  | int b0 =>
    obtain rfl := rv_int r
    refine ⟨rfl, fun {q y} hq rq => ?_⟩
    cases q with
    | non => obtain rfl := rv_non rq; rfl
    | bl b => obtain rfl := rv_bl rq; rfl
    | int b => obtain rfl := rv_int rq; rfl
    | str b => obtain rfl := rv_str rq; rfl
    | _ => cases hq
  | str b0 =>
    obtain rfl := rv_str r
    refine ⟨rfl, fun {q y} hq rq => ?_⟩
    cases q with
    | non => obtain rfl := rv_non rq; rfl
    | bl b => obtain rfl := rv_bl rq; rfl
    | int b => obtain rfl := rv_int rq; rfl
    | str b => obtain rfl := rv_str rq; rfl
    | _ => cases hq
  | _ => cases h
theorem flat_all {H : Hp} {ads : List Addr} {p : PV} {x : V} (h : flatP p = true) (r : RV W H ads p x) : ∀ {l : List PV} {vs : List V}, l.all flatP = true → RVs W H ads l vs → vs.all flatV = true ∧ (vs.any fun y => eqV y x) = l.any fun q => eqF q p
  | [], _, _, hr => by rw [hr.nil_eq]; exact ⟨rfl, rfl⟩
  | q :: l, _, ha, hr => by
    obtain ⟨v, t, rfl, h1, h2⟩ := hr.uncons
    rw [List.all_cons, Bool.and_eq_true] at ha
    obtain ⟨i1, i2⟩ := flat_all h r ha.2 h2
    refine ⟨?_, ?_⟩
    · rw [List.all_cons, (flat_rv ha.1 h1).1, i1]; rfl
    · rw [List.any_cons, List.any_cons, i2, (flat_rv h r).2 ha.1 h1]
theorem sd_kd (hK : W.K = X.K) (hw : W.w = X.w) {a : Addr} {kvs : List (Str × Str)} (h : SD W a kvs) : ∃ es n, KDict X.K X.w a es n := by
  obtain ⟨⟨es, n, e⟩, _⟩ := h
  rw [hK, hw] at e
  exact ⟨es, n, e⟩
theorem sd_look (hK : W.K = X.K) {a : Addr} {kvs : List (Str × Str)} (h : SD W a kvs) (z : Str) : ∃ r : Option Value, PySem.W.nsIn X.K a z = some r ∧ r.isSome = (look kvs z).isSome ∧ ∀ y, look kvs z = some y → ∃ u, r = some u ∧ RelV (.str y) u := by
  obtain ⟨_, e⟩ := h
  obtain ⟨r, h1, h2⟩ := e z
  rw [hK] at h1
  refine ⟨r, h1, ?_, fun y hy => ?_⟩
  · cases hl : look kvs z with
    | none => rw [hl] at h2; rw [show r = none from h2]; rfl
    | some y =>
      rw [hl] at h2
      obtain ⟨u, rfl, _⟩ := h2
      rfl
  · rw [hy] at h2
    exact h2
theorem ok_in_seq (hK : W.K = X.K) {pins : List (Addr × Obj)} {σ : L2.St} {H : Hp} {s : Shared} {Q : VK} {g : G} {ads : List Addr} {p q : PV} {l : List PV} {x y : V} {v u : Value} (neg : Bool) (I : L2.Inv X pins σ H s) (rx : RelV x v) (ry : RelV y u) (hg : RG W H ads g)
    (hp : RV W H ads p x) (hq : RV W H ads q y) (hs : seqOf q g = some l) (hz : (flatP p && l.all flatP) = true) (k : Kn W H ads (.bl (if neg then !(l.any fun y => eqF y p) else l.any fun y => eqF y p)) g Q) :
    wpAny (model X.prog X.w) X.A (compareOp (if neg then .NotIn else .In) v u) (EP X pins σ Q) X.xe s := by
  rw [Bool.and_eq_true] at hz
  obtain ⟨a, vs, rfl, h1, h2⟩ := seq_at hg hs hq
  obtain ⟨f1, f2⟩ := flat_all hz.1 hp hz.2 h2
  rw [hK] at h1
  have fin : Q (.bl (if neg then !inV x vs else inV x vs)) H := by
    unfold inV
    rw [f2]
    exact k.here hg (mk_bl _)
  cases neg with
  | false => exact op_in_seq pins s σ H x _ v u Q I rx ry ⟨a, vs, rfl, h1, (flat_rv hz.1 hp).1, f1, fin⟩
  | true => exact op_notIn_seq pins s σ H x _ v u Q I rx ry ⟨a, vs, rfl, h1, (flat_rv hz.1 hp).1, f1, fin⟩
/-- both forms at once -/
def opInB (neg : Bool) : Op2 := if neg then opNotIn else opIn
theorem opInB_eq {neg : Bool} {x y : PV} {g g' : G} {r : PV} (h : opInB neg x y g = some (r, g')) : ∃ b, opIn x y g = some (.bl b, g') ∧ r = .bl (if neg then !b else b) := by
  cases neg with
  | false =>
    have h : opIn x y g = some (r, g') := h
    have : ∃ b, r = .bl b := by
      unfold opIn at h
      repeat' split at h
      all_goals first | (cases h; exact ⟨_, rfl⟩) | cases h
    obtain ⟨b, rfl⟩ := this
    exact ⟨b, h, rfl⟩
  | true =>
    have h : opNotIn x y g = some (r, g') := h
    unfold opNotIn at h
    split at h
    · rename_i b g1 e
      cases h
      exact ⟨b, e, rfl⟩
    · cases h
theorem ok_inB (hK : W.K = X.K) (hw : W.w = X.w) (hu : X.A.units + 1 < cLine) (neg : Bool) : OpR X (compareOp (if neg then .NotIn else .In)) (rP2 W (opInB neg)) := by
  intro pins s σ H x y v u Q I rx ry ⟨p, q, g, ads, r, g', hf0, hg, hp, hq, k⟩
  obtain ⟨b, hf, rfl⟩ := opInB_eq hf0
  have dct : ∀ {o : Option PV} {g2 : G}, getD q p g = some (o, g2) → b = o.isSome → g2 = g' → wpAny (model X.prog X.w) X.A (compareOp (if neg then .NotIn else .In) v u) (EP X pins σ Q) X.xe s := by
    intro o g2 hd hb hgg
    subst hb hgg
    rcases getD_ok hK hw hu I hg hd hq hp ry rx with ⟨a, H', o', rfl, rfl, I', d, ro, g1, ex⟩ | ⟨a, kvs, z, rfl, rfl, rfl, rfl, rfl, S, rfl⟩
    · have hs : o.isSome = o'.isSome := by
        cases o <;> cases o' <;> first | rfl | exact ro.elim
      have fin : Q (.bl (if neg then !o'.isSome else o'.isSome)) H' := by
        rw [← hs]
        exact k _ _ _ ex g1 (mk_bl _)
      cases neg with
      | false => exact d_in hu I' d rx fun s3 I3 => ⟨.bl _, H', I3, rfl, fin⟩
      | true => exact d_notIn hu I' d rx fun s3 I3 => ⟨.bl _, H', I3, rfl, fin⟩
    · obtain ⟨es, n, D⟩ := sd_kd hK hw S
      obtain ⟨r, h1, h2, _⟩ := sd_look hK S z
      obtain rfl := rv_str hp
      have fin : Q (.bl (if neg then !r.isSome else r.isSome)) H := by
        rw [h2]
        rw [Option.isSome_map] at k
        exact k.here hg (mk_bl _)
      cases neg with
      | false => exact op_in_kd D pins s σ H (.str z) (.ref a) v (.ref a) Q I rx rfl ⟨z, r, rfl, rfl, h1, fin⟩
      | true => exact op_notIn_kd D pins s σ H (.str z) (.ref a) v (.ref a) Q I rx rfl ⟨z, r, rfl, rfl, h1, fin⟩
  unfold opIn at hf
  split at hf
  · cases hf
    obtain rfl := rv_str hp
    obtain rfl := rv_str hq
    cases neg with
    | false => exact op_in_str pins s σ H _ _ v u Q I rx ry ⟨_, _, rfl, rfl, k.here hg (mk_bl _)⟩
    | true => exact op_notIn_str pins s σ H _ _ v u Q I rx ry ⟨_, _, rfl, rfl, k.here hg (mk_bl _)⟩
  · split at hf
    · rename_i hz
      cases hf
      exact ok_in_seq hK neg I rx ry hg hp hq rfl hz k
    · cases hf
  · split at hf
    · rename_i hz
      cases hf
      exact ok_in_seq hK neg I rx ry hg hp hq rfl hz k
    · cases hf
  · split at hf
    · rename_i l hs
      split at hf
      · rename_i hz
        cases hf
        exact ok_in_seq hK neg I rx ry hg hp hq hs hz k
      · cases hf
    · split at hf
      · rename_i o g1 e
        cases hf
        exact dct e rfl rfl
      · cases hf
  · split at hf
    · rename_i o g1 e
      cases hf
      exact dct e rfl rfl
    · cases hf
  · cases hf

/-! ### subscripts -/
theorem atI_rv {H : Hp} {ads : List Addr} {l : List PV} {vs : List V} {i : Int} {p : PV} (r : RVs W H ads l vs) (h : atI l i = some p) : ∃ v, atI vs i = some v ∧ RV W H ads p v := by
  unfold atI at h ⊢
  rw [r.length]
  cases e : ixN l.length i with
  | none => rw [e] at h; cases h
  | some j =>
    rw [e] at h
    exact r.get h
theorem ix_dict (hu : X.A.units + 1 < cLine) : IxR X (fun x y H Q => ∃ a v, x = .ref a ∧ DGet H a y (some v) ∧ Q v H) := by
  intro value slice pins s σ H x y v u Q I rx ry h hs
  obtain ⟨a, w, rfl, g, q⟩ := h
  obtain rfl : v = Value.ref a := rx
  exact tail_any (dict_typeIs I g) PySem.F.slot_dict_getitem.lookup (d_getItem hu I g ry fun w' s3 I3 rw' => ⟨w, H, I3, rw', q⟩) hs
theorem ok_ix (hK : W.K = X.K) (hw : W.w = X.w) (hu : X.A.units + 1 < cLine) : IxR X (rP2 W opIx) := by
  intro value slice pins s σ H x y v u Q I rx ry ⟨p, q, g, ads, r, g', hf, hg, hp, hq, k⟩ hs
  have dct : ∀ {z : PV} {g2 : G}, getD p q g = some (some z, g2) → r = z → g' = g2 → wpAny (model X.prog X.w) X.A (subscriptTail value slice v u) (EP X pins σ Q) X.xe s := by
    intro z g2 hd hz hgg
    subst hz hgg
    rcases getD_ok hK hw hu I hg hd hp hq rx ry with ⟨a, H', o', rfl, rfl, I', d, ro, g1, ex⟩ | ⟨a, kvs, z, rfl, rfl, rfl, rfl, rfl, S, e⟩
    · cases o' with
      | none => exact ro.elim
      | some w => exact ix_dict hu value slice pins s σ H' (.ref a) y (.ref a) u Q I' rfl ry ⟨a, w, rfl, d, k _ _ _ ex g1 ro⟩ hs
    · obtain ⟨es, n, D⟩ := sd_kd hK hw S
      obtain ⟨r1, h1, h2, h3⟩ := sd_look hK S z
      obtain rfl := rv_str hq
      obtain ⟨y1, hy, e2⟩ := Option.map_eq_some_iff.mp e.symm
      obtain ⟨u1, rfl, ru⟩ := h3 _ hy
      exact ix_kdict value slice pins s σ H (.ref a) (.str z) (.ref a) u Q I rfl ry ⟨a, z, .str y1, rfl, rfl, ⟨es, n, u1, D.at_, D.lit, h1, ru⟩, k.here hg (by rw [← e2]; exact mk_str _)⟩ hs
  unfold opIx at hf
  split at hf
  · split at hf
    · rename_i e
      cases hf
      obtain ⟨a, vs, rfl, h1, h2⟩ := rv_tup hp
      obtain rfl := rv_int hq
      obtain ⟨w, e1, e2⟩ := atI_rv h2 e
      exact ix_tup value slice pins s σ H _ _ v u Q I rx ry ⟨a, vs, _, w, rfl, rfl, .of h1, e1, k.here hg e2⟩ hs
    · cases hf
  · split at hf
    · rename_i hz
      split at hf
      · rename_i c e
        cases hf
        obtain rfl := rv_str hp
        obtain rfl := rv_int hq
        unfold chrAt at e
        obtain ⟨c1, e1, rfl⟩ := Option.map_eq_some_iff.mp e
        exact ix_str value slice pins s σ H _ _ v u Q I rx ry ⟨_, _, c1, rfl, rfl, le_line hz, e1, k.here hg (mk_str _)⟩ hs
      · cases hf
    · cases hf
  · split at hf
    · rename_i l i e0
      split at hf
      · rename_i e
        cases hf
        obtain ⟨a, rfl, ha⟩ := rv_ref hp
        obtain rfl := rv_int hq
        obtain ⟨vs, h1, h2⟩ := hg.ob _ _ _ e0 ha
        obtain ⟨w, e1, e2⟩ := atI_rv h2 e
        exact ix_list value slice pins s σ H _ _ v u Q I rx ry ⟨a, vs, _, w, rfl, rfl, .of h1, e1, k.here hg e2⟩ hs
      · cases hf
    · rename_i l i e0
      split at hf
      · rename_i e
        cases hf
        obtain ⟨a, rfl, ha⟩ := rv_ref hp
        obtain rfl := rv_int hq
        obtain ⟨vs, h1, h2⟩ := hg.ob _ _ _ e0 ha
        obtain ⟨w, e1, e2⟩ := atI_rv h2 e
        exact ix_list value slice pins s σ H _ _ v u Q I rx ry ⟨a, vs, _, w, rfl, rfl, .inl h1, e1, k.here hg e2⟩ hs
      · cases hf
    · split at hf
      · rename_i z g1 e
        cases hf
        exact dct e rfl rfl
      · cases hf
  · split at hf
    · rename_i z g1 e
      cases hf
      exact dct e rfl rfl
    · cases hf
  · cases hf

/-! ### slices -/
def rPS (W : Wd) : V → Option Int → Option Int → Hp → VK → Prop := fun x lo hi H Q => ∃ p g ads r g', opSl p lo hi g = some (r, g') ∧ RG W H ads g ∧ RV W H ads p x ∧ Kn W H ads r g' Q
theorem cut_whole {α : Type} (xs : List α) {lo hi : Option Int} (h : HT.sIx xs.length 0 lo = 0 ∧ HT.sIx xs.length xs.length hi = xs.length) : cutP xs lo hi = xs := by
  unfold cutP
  rw [h.1, h.2, List.drop_zero, Nat.sub_zero, List.take_length]
theorem ok_sl (hK : W.K = X.K) : SlR X (rPS W) := by
  intro pins s σ H x v vl vu lo hi sl Q I rx hs pl pu ⟨p, g, ads, r, g', hf, hg, hp, k⟩
  unfold opSl at hf
  split at hf
  · cases hf
    obtain ⟨a, vs, rfl, h1, h2⟩ := rv_tup hp
    refine sl_tupA pins s σ H _ v vl vu lo hi sl Q I rx hs pl pu ⟨a, vs, rfl, .of h1, fun e => ?_, fun _ p hp => k.tup hg (h2.cut lo hi) p hp⟩
    rw [h2.length] at e
    refine k.here hg (mk_tup h1 ?_)
    rw [cut_whole _ e]
    exact h2
  · split at hf
    · rename_i hz
      cases hf
      obtain rfl := rv_str hp
      exact sl_str pins s σ H _ v vl vu lo hi sl Q I rx hs pl pu ⟨_, rfl, le_line hz, k.here hg (mk_str _)⟩
    · cases hf
  · split at hf
    · rename_i l e
      cases hf
      obtain ⟨a, vs, rfl, h1, h2⟩ := seqL_at hg e hp
      rw [hK] at h1
      exact sl_list pins s σ H _ v vl vu lo hi sl Q I rx hs pl pu ⟨a, vs, rfl, h1, fun p hp => k.lst hg (h2.cut lo hi) p hp⟩
    · cases hf
  · cases hf

/-! ### built-in functions -/
theorem rvs_uncons1 {H : Hp} {ads : List Addr} {p : PV} {xs : List V} (h : RVs W H ads [p] xs) : ∃ v, xs = [v] ∧ RV W H ads p v := rvs1 h
theorem fk_len (hK : W.K = X.K) : CallR X (.builtin "len") (rPN W fLen) := by
  intro pins s σ H xs us Q I r ⟨ps, g, ads, z, g', hf, hg, hp, k⟩
  unfold fLen at hf
  split at hf
  · split at hf
    · rename_i hz
      cases hf
      obtain ⟨v, rfl, h1⟩ := rvs1 hp
      obtain rfl := rv_str h1
      exact call_len_str pins s σ H _ us Q I r ⟨_, rfl, le_line hz, k.here hg (mk_int _)⟩
    · cases hf
  · split at hf
    · rename_i l e
      cases hf
      obtain ⟨v, rfl, h1⟩ := rvs1 hp
      obtain ⟨a, vs, rfl, h2, h3⟩ := seq_at hg e h1
      rw [hK] at h2
      exact call_len_seq pins s σ H _ us Q I r ⟨a, vs, rfl, h2, by rw [h3.length]; exact k.here hg (mk_int _)⟩
    · cases hf
  · cases hf
theorem fk_int : CallR X (.type "int") (rPN W fInt) := by
  intro pins s σ H xs us Q I r ⟨ps, g, ads, z, g', hf, hg, hp, k⟩
  unfold fInt at hf
  split at hf
  · cases hf
    obtain ⟨v, rfl, h1⟩ := rvs1 hp
    obtain rfl := rv_int h1
    exact call_int1 pins s σ H _ us Q I r (.inl ⟨_, rfl, k.here hg (mk_int _)⟩)
  · cases hf
    obtain ⟨v, rfl, h1⟩ := rvs1 hp
    obtain rfl := rv_bl h1
    exact call_int1 pins s σ H _ us Q I r (.inr ⟨_, rfl, k.here hg (mk_int _)⟩)
  · cases hf
theorem intsOf_rv {H : Hp} {ads : List Addr} : ∀ {l : List PV} {ns : List Int} {vs : List V}, intsOf l = some ns → RVs W H ads l vs → vs = ns.map V.int
  | [], _, _, h, r => by cases h; rw [r.nil_eq]; rfl
  | p :: l, _, _, h, r => by
    unfold intsOf at h
    split at h
    · rename_i heq
      cases heq
    · rename_i i r' heq
      cases heq
      split at h
      · rename_i e
        cases h
        obtain ⟨v, t, rfl, h1, h2⟩ := r.uncons
        rw [rv_int h1, intsOf_rv e h2]
        rfl
      · cases h
    · cases h
theorem blsOf_rv {H : Hp} {ads : List Addr} : ∀ {l : List PV} {ns : List Bool} {vs : List V}, blsOf l = some ns → RVs W H ads l vs → vs = ns.map V.bl
  | [], _, _, h, r => by cases h; rw [r.nil_eq]; rfl
  | p :: l, _, _, h, r => by
    unfold blsOf at h
    split at h
    · rename_i heq
      cases heq
    · rename_i i r' heq
      cases heq
      split at h
      · rename_i e
        cases h
        obtain ⟨v, t, rfl, h1, h2⟩ := r.uncons
        rw [rv_bl h1, blsOf_rv e h2]
        rfl
      · cases h
    · cases h
theorem fk_sum (hK : W.K = X.K) (hc : X.calm = true) : CallR X (.builtin "sum") (rPN W fSum) := by
  intro pins s σ H xs us Q I r ⟨ps, g, ads, z, g', hf, hg, hp, k⟩
  unfold fSum at hf
  split at hf
  · split at hf
    · rename_i l e
      split at hf
      · rename_i ns e2
        cases hf
        obtain ⟨v, rfl, h1⟩ := rvs1 hp
        obtain ⟨a, vs, rfl, h2, h3⟩ := seqL_at hg e h1
        rw [hK, intsOf_rv e2 h3] at h2
        exact cr_sum hc pins s σ H _ us Q I r ⟨a, ns, rfl, h2, k.here hg (mk_int _)⟩
      · cases hf
    · cases hf
  · cases hf
theorem fk_all (hK : W.K = X.K) (hc : X.calm = true) : CallR X (.builtin "all") (rPN W fAll) := by
  intro pins s σ H xs us Q I r ⟨ps, g, ads, z, g', hf, hg, hp, k⟩
  unfold fAll at hf
  split at hf
  · split at hf
    · rename_i l e
      split at hf
      · rename_i ns e2
        cases hf
        obtain ⟨v, rfl, h1⟩ := rvs1 hp
        obtain ⟨a, vs, rfl, h2, h3⟩ := seqL_at hg e h1
        rw [hK, blsOf_rv e2 h3] at h2
        exact cr_all hc pins s σ H _ us Q I r ⟨a, ns, rfl, h2, k.here hg (mk_bl _)⟩
      · cases hf
    · cases hf
  · cases hf
theorem fk_any (hK : W.K = X.K) (hc : X.calm = true) : CallR X (.builtin "any") (rPN W fAny) := by
  intro pins s σ H xs us Q I r ⟨ps, g, ads, z, g', hf, hg, hp, k⟩
  unfold fAny at hf
  split at hf
  · split at hf
    · rename_i l e
      split at hf
      · rename_i ns e2
        cases hf
        obtain ⟨v, rfl, h1⟩ := rvs1 hp
        obtain ⟨a, vs, rfl, h2, h3⟩ := seqL_at hg e h1
        rw [hK, blsOf_rv e2 h3] at h2
        exact cr_any hc pins s σ H _ us Q I r ⟨a, ns, rfl, h2, k.here hg (mk_bl _)⟩
      · cases hf
    · cases hf
  · cases hf
theorem fk_min (hc : X.calm = true) : CallR X (.builtin "min") (rPN W fMin) := by
  intro pins s σ H xs us Q I r ⟨ps, g, ads, z, g', hf, hg, hp, k⟩
  unfold fMin at hf
  split at hf
  · cases hf
    obtain ⟨v, w, rfl, h1, h2⟩ := rvs2 hp
    obtain rfl := rv_int h1
    obtain rfl := rv_int h2
    exact call_min2 hc pins s σ H _ us Q I r ⟨_, _, rfl, k.here hg (mk_int _)⟩
  · cases hf
theorem fk_max (hc : X.calm = true) : CallR X (.builtin "max") (rPN W fMax) := by
  intro pins s σ H xs us Q I r ⟨ps, g, ads, z, g', hf, hg, hp, k⟩
  unfold fMax at hf
  split at hf
  · cases hf
    obtain ⟨v, w, rfl, h1, h2⟩ := rvs2 hp
    obtain rfl := rv_int h1
    obtain rfl := rv_int h2
    exact call_max2 hc pins s σ H _ us Q I r ⟨_, _, rfl, k.here hg (mk_int _)⟩
  · cases hf
theorem fk_tuple (hK : W.K = X.K) : CallR X (.type "tuple") (rPN W fTuple) := by
  intro pins s σ H xs us Q I r ⟨ps, g, ads, z, g', hf, hg, hp, k⟩
  unfold fTuple at hf
  split at hf
  · cases hf
    obtain ⟨v, rfl, h1⟩ := rvs1 hp
    obtain ⟨a, vs, rfl, h2, h3⟩ := rv_tup h1
    exact call_tuple_of pins s σ H _ us Q I r ⟨a, vs, rfl, .inr ⟨.of h2, k.here hg h1⟩⟩
  · split at hf
    · rename_i l e
      cases hf
      obtain ⟨v, rfl, h1⟩ := rvs1 hp
      obtain ⟨a, vs, rfl, h2, h3⟩ := seqL_at hg e h1
      rw [hK] at h2
      exact call_tuple_of pins s σ H _ us Q I r ⟨a, vs, rfl, .inl ⟨h2, fun p hp => k.tup hg h3 p hp⟩⟩
    · cases hf
  · cases hf
theorem fk_list (hK : W.K = X.K) : CallR X (.type "list") (rPN W fList) := by
  intro pins s σ H xs us Q I r ⟨ps, g, ads, z, g', hf, hg, hp, k⟩
  unfold fList at hf
  split at hf
  · split at hf
    · rename_i l e
      cases hf
      obtain ⟨v, rfl, h1⟩ := rvs1 hp
      obtain ⟨a, vs, rfl, h2, h3⟩ := seq_at hg e h1
      rw [hK] at h2
      exact call_list_of pins s σ H _ us Q I r ⟨a, vs, rfl, h2, fun p hp => k.lst hg h3 p hp⟩
    · cases hf
  · cases hf
theorem fk_dict : CallR X (.type "dict") (rPN W fDict) := by
  intro pins s σ H xs us Q I r ⟨ps, g, ads, z, g', hf, hg, hp, k⟩
  unfold fDict at hf
  split at hf
  · split at hf
    · rename_i kvs e
      cases hf
      obtain ⟨v, rfl, h1⟩ := rvs1 hp
      obtain ⟨a, rfl, ha⟩ := rv_ref h1
      obtain ⟨ks, h2, h3⟩ := hg.ob _ _ _ e ha
      refine call_dictD pins s σ H _ us Q I r ⟨a, ks, rfl, .inl h2, fun p hp => ?_⟩
      obtain ⟨g1, ex⟩ := hg.new (o := .dK ks) (go := .dk kvs) hp fun e => ⟨ks, upd_same, h3.mono e⟩
      refine k _ _ _ ex g1 (mk_ref ?_)
      rw [← hg.len, List.getElem?_append_right (Nat.le_refl _), Nat.sub_self]
      rfl
    · cases hf
  · cases hf

/-! ### methods -/
theorem mk_append : MtR X "list.append" (rPM W mAppend) := by
  intro pins s σ H x xs v us Q I rx rs ⟨ps, g, ads, z, g', hf, hg, hp, k⟩
  unfold mAppend at hf
  split at hf
  · split at hf
    · rename_i l e
      split at hf
      · rename_i hz
        cases hf
        obtain ⟨v1, w, e1, h1, h2⟩ := rvs2 hp
        cases e1
        obtain ⟨a, rfl, ha⟩ := rv_ref h1
        obtain ⟨ks, h3, h4⟩ := hg.ob _ _ _ e ha
        refine mt_append pins s σ H _ _ v us Q I rx rs ⟨a, ks, w, rfl, rfl, h3, by rw [h4.length]; exact lt_line hz, ?_⟩
        obtain ⟨g1, ex⟩ := hg.put (o := .lst (ks ++ [w])) (go := .lst (l ++ [_])) ha (no_tup h3 (fun _ z => nomatch z) (fun _ _ z => nomatch z)) fun e => ⟨_, upd_same, (h4.mono e).append (.cons (h2.mono e) .nil)⟩
        exact k _ _ _ ex g1 mk_non
      · cases hf
    · cases hf
  · cases hf
theorem mk_extend : MtR X "list.extend" (rPM W mExtend) := by
  intro pins s σ H x xs v us Q I rx rs ⟨ps, g, ads, z, g', hf, hg, hp, k⟩
  unfold mExtend at hf
  split at hf
  · split at hf
    · rename_i l m e e2
      split at hf
      · rename_i hz
        cases hf
        obtain ⟨v1, w, e1, h1, h2⟩ := rvs2 hp
        cases e1
        obtain ⟨a, ks, rfl, ha, _, h3, h4⟩ := lst_at hg e h1
        obtain ⟨b, js, rfl, hb, _, h5, h6⟩ := lst_at hg e2 h2
        refine mt_extend pins s σ H _ _ v us Q I rx rs ⟨a, b, ks, js, rfl, rfl, h3, h5, by rw [h4.length, h6.length]; exact le_line hz, ?_⟩
        obtain ⟨g1, ex⟩ := hg.put (o := .lst (ks ++ js)) (go := .lst (l ++ m)) ha (no_tup h3 (fun _ z => nomatch z) (fun _ _ z => nomatch z)) fun e => ⟨_, upd_same, (h4.mono e).append (h6.mono e)⟩
        exact k _ _ _ ex g1 mk_non
      · cases hf
    · cases hf
  · cases hf
theorem mk_pop : MtR X "list.pop" (rPM W mPop) := by
  intro pins s σ H x xs v us Q I rx rs ⟨ps, g, ads, z, g', hf, hg, hp, k⟩
  unfold mPop at hf
  split at hf
  · split at hf
    · rename_i l e
      split at hf
      · rename_i y hy
        cases hf
        obtain ⟨v1, e1, h1⟩ := rvs1 hp
        cases e1
        obtain ⟨a, rfl, ha⟩ := rv_ref h1
        obtain ⟨ks, h3, h4⟩ := hg.ob _ _ _ e ha
        obtain ⟨y', hy', ry⟩ := h4.get hy
        rw [← h4.length] at hy'
        refine mt_pop pins s σ H _ _ v us Q I rx rs ⟨a, ks, y', rfl, rfl, h3, hy', ?_⟩
        obtain ⟨g1, ex⟩ := hg.put (o := .lst ks.dropLast) (go := .lst l.dropLast) ha (no_tup h3 (fun _ z => nomatch z) (fun _ _ z => nomatch z)) fun e => ⟨_, upd_same, (h4.mono e).dropLast⟩
        exact k _ _ _ ex g1 (ry.mono ex)
      · cases hf
    · cases hf
  · split at hf
    · rename_i l e
      split at hf
      · rename_i kk hk
        split at hf
        · rename_i hz
          split at hf
          · rename_i y hy
            cases hf
            obtain ⟨v1, w, e1, h1, h2⟩ := rvs2 hp
            cases e1
            obtain ⟨a, rfl, ha⟩ := rv_ref h1
            obtain rfl := rv_int h2
            obtain ⟨ks, h3, h4⟩ := hg.ob _ _ _ e ha
            obtain ⟨y', hy', ry⟩ := h4.get hy
            refine mt_popAt pins s σ H _ _ v us Q I rx rs ⟨a, ks, _, kk, y', rfl, rfl, h3, hz.1, hz.2, by rw [h4.length]; exact hk, hy', ?_⟩
            obtain ⟨g1, ex⟩ := hg.put (o := .lst (ks.eraseIdx kk)) (go := .lst (l.eraseIdx kk)) ha (no_tup h3 (fun _ z => nomatch z) (fun _ _ z => nomatch z)) fun e => ⟨_, upd_same, (h4.mono e).erase kk⟩
            exact k _ _ _ ex g1 (ry.mono ex)
          · cases hf
        · cases hf
      · cases hf
    · cases hf
  · cases hf
theorem ro_getD {H : Hp} {ads : List Addr} {o : Option PV} {o' : Option V} {d : PV} {d' : V} (r : ROp W H ads o o') (h : RV W H ads d d') : RV W H ads (o.getD d) (o'.getD d') := by
  cases o <;> cases o' <;> first | exact h | exact r | exact r.elim
theorem sd_get {pins : List (Addr × Obj)} {σ : L2.St} {H : Hp} {s : Shared} {a : Addr} {es : Array DictEntry} {n : Nat} {z : Str} {t : Tok} {r : Option Value} {u : Value} {A : Around} {E Q : Value → Shared → Prop} (I : L2.Inv X pins σ H s) (D : KDict X.K X.w a es n)
    (h : PySem.W.nsIn X.K a z = some r) (q : ∀ s', L2.Inv X pins σ H s' → Q (r.getD u) s') : wpAny (model X.prog X.w) A (call (.builtin "dict.get") [.ref a, .str z t, u]) Q E s := by
  have hm := PySem.W.mapOf_K (prog := X.prog) (w := X.w) I.kIn D.at_ D.lit
  refine call_meetsIn PySem.F.slot_dict_get hm.typeIs PySem.F.entry_dict_get (PySem.F.args_dict_get_3 _ _ _) (meets_dict_get_default (strKind X.prog X.w) a (strKind_is X.prog X.w z t) D.low u) ⟨_, hm, ?_⟩
  rw [PySem.W.find_K D.at_ h]
  exact q _ (I.tok _)
theorem mk_get (hK : W.K = X.K) (hw : W.w = X.w) (hu : X.A.units + 1 < cLine) : MtR X "dict.get" (rPM W mGet) := by
  intro pins s σ H x xs v us Q I rx rs ⟨ps, g, ads, z, g', hf, hg, hp, k⟩
  unfold mGet at hf
  split at hf
  · split at hf
    · rename_i o g1 e
      cases hf
      obtain ⟨v1, w1, d1, e1, h1, h2, h3⟩ := rvs3 hp
      cases e1
      cases rs with
      | cons r1 rr =>
        cases rr with
        | cons r2 rr =>
          cases rr
          rcases getD_ok hK hw hu I hg e h1 h2 rx r1 with ⟨a, H', o', rfl, rfl, I', d, ro, g1, ex⟩ | ⟨a, kvs, z, rfl, rfl, rfl, rfl, rfl, S, e⟩
          · exact d_get2 hu I' d r1 r2 fun w' s3 I3 rw' => ⟨_, H', I3, rw', k _ _ _ ex g1 (ro_getD ro (h3.mono ex))⟩
          · obtain ⟨es, n, D⟩ := sd_kd hK hw S
            obtain ⟨r0, q1, q2, q3⟩ := sd_look hK S z
            obtain rfl := rv_str h2
            obtain ⟨t, rfl⟩ := r1
            refine sd_get I D q1 fun s' I' => ?_
            cases hl : look kvs z with
            | none =>
              rw [hl] at q2 e
              have : r0 = none := by cases r0 with | none => rfl | some _ => cases q2
              subst this
              rw [e] at k
              exact ⟨_, H, I', r2, k.here hg h3⟩
            | some y =>
              obtain ⟨u1, rfl, ru⟩ := q3 _ hl
              rw [hl] at e
              rw [e] at k
              exact ⟨.str y, H, I', ru, k.here hg (mk_str _)⟩
    · cases hf
  · split at hf
    · rename_i o g1 e
      cases hf
      obtain ⟨v1, w1, e1, h1, h2⟩ := rvs2 hp
      cases e1
      cases rs with
      | cons r1 rr =>
        cases rr
        rcases getD_ok hK hw hu I hg e h1 h2 rx r1 with ⟨a, H', o', rfl, rfl, I', d, ro, g1, ex⟩ | ⟨a, kvs, z, h0, _⟩
        · exact d_get1 hu I' d r1 fun w' s3 I3 rw' => ⟨_, H', I3, rw', k _ _ _ ex g1 (ro_getD ro mk_non)⟩
        · cases h0
    · cases hf
  · cases hf

/-! ### d[k] = v, l[i] = v -/
theorem ok_set (hu : X.A.units + 1 < cLine) : PSet X (fun o i v H Q => ∃ p k z g ads g', setIx p k z g = some g' ∧ RG W H ads g ∧ RV W H ads p o ∧ RV W H ads k i ∧ RV W H ads z v ∧ ∀ H', Ext W H ads H' ads → RG W H' ads g' → Q H') := by
  intro pins s σ H o i v ov iv u Q I ro ri rv ⟨p, kk, z, g, ads, g', hf, hg, hp, hk, hz, q⟩
  unfold setIx at hf
  split at hf
  · obtain ⟨a, rfl, ha⟩ := rv_ref hp
    split at hf
    · rename_i l e
      split at hf
      · split at hf
        · rename_i j hj
          cases hf
          obtain ⟨ks, h3, h4⟩ := hg.ob _ _ _ e ha
          obtain rfl := rv_int hk
          refine set_list pins s σ H _ _ v ov iv u Q I ro ri rv ⟨a, ks, _, j, rfl, rfl, h3, by rw [h4.length]; exact hj, ?_⟩
          obtain ⟨g1, ex⟩ := hg.put (o := .lst (ks.set j v)) (go := .lst (l.set j z)) ha (no_tup h3 (fun _ z => nomatch z) (fun _ _ z => nomatch z)) fun e => ⟨_, upd_same, (h4.mono e).set (hz.mono e) j⟩
          exact q _ ex g1
        · cases hf
      · cases hf
    · rename_i kvs e
      obtain ⟨ks, h3, h4⟩ := hg.ob _ _ _ e ha
      obtain rfl : ov = Value.ref a := ro
      have one : ∀ (k0 : Key), kvs.length < big → i = kV k0 → RG W (upd H a (.dK (putK ks k0 v))) ads (g.set _ (.dk (putD kvs k0 z))) ∧ Ext W H ads (upd H a (.dK (putK ks k0 v))) ads := fun k0 hb e =>
        hg.put (o := .dK (putK ks k0 v)) (go := .dk (putD kvs k0 z)) ha (no_tup h3 (fun _ z => nomatch z) (fun _ _ z => nomatch z)) fun e => ⟨_, upd_same, (h4.mono e).put k0 (hz.mono e)⟩
      split at hf
      · split at hf
        · rename_i hb
          cases hf
          obtain rfl := rv_int hk
          obtain ⟨g1, ex⟩ := one (.inl _) hb rfl
          exact d_setItem hu I (DPut.k (k := .inl _) h3 (by rw [h4.length]; exact lt_line hb)) ri rv fun s4 I4 => ⟨_, I4, q _ ex g1⟩
        · cases hf
      · split at hf
        · rename_i hb
          cases hf
          obtain rfl := rv_str hk
          obtain ⟨g1, ex⟩ := one (.inr _) hb rfl
          exact d_setItem hu I (DPut.k (k := .inr _) h3 (by rw [h4.length]; exact lt_line hb)) ri rv fun s4 I4 => ⟨_, I4, q _ ex g1⟩
        · cases hf
      · split at hf
        · rename_i ks' e3
          cases hf
          rw [h4.nil_eq] at h3
          obtain ⟨b, vs, rfl, hb, hr⟩ := rv_tup hk
          have hks := keysOf_rv e3 hr
          have I' := retrack I h3
          have hab : b ≠ a := ne_of hb h3 fun z => nomatch z
          obtain ⟨g1, ex⟩ := hg.put (o := .dT [(ks', v)]) (go := .dt [(ks', z)]) ha (no_tup h3 (fun _ z => nomatch z) (fun _ _ z => nomatch z)) fun e => ⟨_, upd_same, .cons (hz.mono e) .nil⟩
          refine d_setItem hu I' (DPut.t (k := ks') upd_same (by rw [upd_ne hab, hb, hks]) (lt_line (by decide))) ri rv fun s4 I4 => ⟨_, I4, ?_⟩
          rw [upd_upd]
          exact q _ ex g1
        · cases hf
      · cases hf
    · rename_i kvs e
      obtain ⟨ks, h3, h4⟩ := hg.ob _ _ _ e ha
      obtain rfl : ov = Value.ref a := ro
      split at hf
      · split at hf
        · rename_i ks' e3
          split at hf
          · rename_i hb'
            cases hf
            obtain ⟨b, vs, rfl, hb, hr⟩ := rv_tup hk
            have hks := keysOf_rv e3 hr
            obtain ⟨g1, ex⟩ := hg.put (o := .dT (putK ks ks' v)) (go := .dt (putD kvs ks' z)) ha (no_tup h3 (fun _ z => nomatch z) (fun _ _ z => nomatch z)) fun e => ⟨_, upd_same, (h4.mono e).put ks' (hz.mono e)⟩
            exact d_setItem hu I (DPut.t (k := ks') h3 (by rw [hb, hks]) (by rw [h4.length]; exact lt_line hb')) ri rv fun s4 I4 => ⟨_, I4, q _ ex g1⟩
          · cases hf
        · cases hf
      · cases hf
    · cases hf
  · cases hf
end
end Vm
end

section
set_option maxRecDepth 100000
set_option maxHeartbeats 4000000
/-! VmE: readings of the combinators; what a piece of syntax means, expressions. -/
namespace Vm
open PySem L2 PySem.Spec PyProof.Rows

/-! ### readings -/
def tM {α β : Type} (W : Wd) (R : Hp → List Addr → α → β → Prop) (f : ME α) : L2.St → Hp → (β → Hp → Prop) → Prop := fun σ H Q =>
  ∃ σp g ads a g', RSl W H ads σp σ ∧ RG W H ads g ∧ f σp g = some (.ok a g') ∧ ∀ b H' ads', Ext W H ads H' ads' → RG W H' ads' g' → R H' ads' a b → Q b H'
def tE (W : Wd) (f : ME PV) : TE := tM W (RV W) f
def tA (W : Wd) (f : ME (List PV)) : TA := tM W (RVs W) f
def tT (W : Wd) (f : ME Bool) : TT := tM W (fun _ _ a b => a = b) f
def tO (W : Wd) (f : ME (Option Int)) : TO := tM W (fun _ _ a b => a = b) f

theorem bind_some {α β : Type} {a : ME α} {k : α → ME β} {σ : Sl} {g g2 : G} {y : β} (h : (a.bind k) σ g = some (.ok y g2)) : ∃ x g1, a σ g = some (.ok x g1) ∧ k x σ g1 = some (.ok y g2) := by
  unfold ME.bind at h
  split at h
  · cases h
  · cases h
  · rename_i x g1 e
    exact ⟨x, g1, e, h⟩
theorem lift_some {o : Option (PV × G)} {v : PV} {g : G} (h : liftO o = some (.ok v g)) : o = some (v, g) := by
  unfold liftO at h
  split at h
  · cases h; rfl
  · cases h
theorem ret_some {α : Type} {a b : α} {σ : Sl} {g g2 : G} (h : ME.ret a σ g = some (.ok b g2)) : a = b ∧ g = g2 := by
  unfold ME.ret at h
  cases h
  exact ⟨rfl, rfl⟩
section
variable {W : Wd} {H H1 : Hp} {ads ads1 : List Addr} {v : PV} {g : G} {Q : VK}
theorem Kn.after (k : Kn W H ads v g Q) (e : Ext W H ads H1 ads1) : Kn W H1 ads1 v g Q := fun v' H' ads' e' r rv => k v' H' ads' (e.trans e') r rv
end
theorem PE.imp {X : Cx} {e : Expr} {t t' : TE} (h : PE X e t) (k : ∀ σ H Q, t' σ H Q → t σ H Q) : PE X e t' := ⟨fun pins s σ H Q I q => h.run pins s σ H Q I (k σ H Q q)⟩
theorem PT.imp {X : Cx} {e : Expr} {t t' : TT} (h : PT X e t) (k : ∀ σ H Q, t' σ H Q → t σ H Q) : PT X e t' := ⟨fun pins s σ H Q I q => h.run pins s σ H Q I (k σ H Q q)⟩
theorem PW.imp {X : Cx} {e : Expr} {t t' : TT} (h : PW X e t) (k : ∀ σ H Q, t' σ H Q → t σ H Q) : PW X e t' := ⟨fun wh pins s σ H Q I q => h.run wh pins s σ H Q I (k σ H Q q)⟩
theorem PA.imp {X : Cx} {e : List Expr} {t t' : TA} (h : PA X e t) (k : ∀ σ H Q, t' σ H Q → t σ H Q) : PA X e t' := ⟨fun pos pins s σ H Q I q => h.run pos pins s σ H Q I (k σ H Q q)⟩
theorem PO.imp {X : Cx} {e : Option Expr} {t t' : TO} (h : PO X e t) (k : ∀ σ H Q, t' σ H Q → t σ H Q) : PO X e t' := ⟨fun pins s σ H Q I q => h.run pins s σ H Q I (k σ H Q q)⟩
theorem PS.imp {X : Cx} {e : Stmt} {t t' : TS} (h : PS X e t) (k : ∀ D σ H, t' D σ H → t D σ H) : PS X e t' := ⟨fun pins s σ H D I q => h.run pins s σ H D I (k D σ H q)⟩
theorem pe_stuck {X : Cx} {W : Wd} {e : Expr} : PE X e (tE W ME.stuck) := ⟨fun _ _ _ _ _ _ h => by
  obtain ⟨_, _, _, _, _, _, _, h, _⟩ := h
  cases h⟩
theorem pt_stuck {X : Cx} {W : Wd} {e : Expr} : PT X e (tT W ME.stuck) := ⟨fun _ _ _ _ _ _ h => by
  obtain ⟨_, _, _, _, _, _, _, h, _⟩ := h
  cases h⟩
theorem pa_stuck {X : Cx} {W : Wd} {e : List Expr} : PA X e (tA W ME.stuck) := ⟨fun _ _ _ _ _ _ _ h => by
  obtain ⟨_, _, _, _, _, _, _, h, _⟩ := h
  cases h⟩
theorem po_stuck {X : Cx} {W : Wd} {e : Option Expr} : PO X e (tO W ME.stuck) := ⟨fun _ _ _ _ _ _ h => by
  obtain ⟨_, _, _, _, _, _, _, h, _⟩ := h
  cases h⟩

section
variable {X : Cx} {W : Wd} {a b c : Expr} {fa fb fc : ME PV} {pos : Pos}
theorem ve_var {i : Nat} {x : Str} (hN : X.N[i]? = some x) (hv : Vis X.env.scope x) (hd : (x == ("__debug__" : Str)) = false) (hcd : (x == ("__classdict__" : Str)) = false) : PE X (.Name x pos) (tE W (eVar i)) := by
  refine PE.imp (pe_var hN hv hd hcd) fun σ H Q ⟨σp, g, ads, v, g', hs, hg, hf, k⟩ => ?_
  unfold eVar at hf
  split at hf
  · rename_i v1 e
    cases hf
    obtain ⟨w, e1, e2⟩ := hs.at_ _ _ e
    exact ⟨w, e1, k _ _ _ .refl hg e2⟩
  · cases hf
theorem ve_const {e : Expr} {v : PV} {w : V} (h : PE X e (tC w)) (r : ∀ H ads, RV W H ads v w) : PE X e (tE W (eC v)) := by
  refine PE.imp h fun σ H Q ⟨σp, g, ads, v, g', hs, hg, hf, k⟩ => ?_
  obtain ⟨rfl, rfl⟩ := ret_some hf
  exact k _ _ _ .refl hg (r _ _)
theorem ve_op2 {op : Operator} {f : Op2} (ho : OpR X (binaryOp op) (rP2 W f)) (ha : PE X a (tE W fa)) (hb : PE X b (tE W fb)) : PE X (.BinOp a op b pos) (tE W (eOp2 f fa fb)) := by
  refine PE.imp (pe_op ho ha hb) fun σ H Q ⟨σp, g, ads, v, g', hs, hg, hf, k⟩ => ?_
  obtain ⟨x, g1, h1, hf⟩ := bind_some hf
  obtain ⟨y, g2, h2, hf⟩ := bind_some hf
  refine ⟨σp, g, ads, x, g1, hs, hg, h1, fun x' H1 ads1 e1 r1 rx => ⟨σp, g1, ads1, y, g2, hs.mono e1, r1, h2, fun y' H2 ads2 e2 r2 ry => ?_⟩⟩
  exact ⟨x, y, g2, ads2, v, g', lift_some hf, r2, rx.mono e2, ry, fun v' H' ads' e3 => k _ _ _ ((e1.trans e2).trans e3)⟩
theorem ve_cmp {op : CmpOp} {f : Op2} (ho : OpR X (compareOp op) (rP2 W f)) (hm : behindInMarks op b = false) (ha : PE X a (tE W fa)) (hb : PE X b (tE W fb)) : PE X (.Compare a [op] [b] pos) (tE W (eOp2 f fa fb)) := by
  refine PE.imp (pe_cmpR ho ha hb hm) fun σ H Q ⟨σp, g, ads, v, g', hs, hg, hf, k⟩ => ?_
  obtain ⟨x, g1, h1, hf⟩ := bind_some hf
  obtain ⟨y, g2, h2, hf⟩ := bind_some hf
  refine ⟨σp, g, ads, x, g1, hs, hg, h1, fun x' H1 ads1 e1 r1 rx => ⟨σp, g1, ads1, y, g2, hs.mono e1, r1, h2, fun y' H2 ads2 e2 r2 ry => ?_⟩⟩
  exact ⟨x, y, g2, ads2, v, g', lift_some hf, r2, rx.mono e2, ry, fun v' H' ads' e3 => k _ _ _ ((e1.trans e2).trans e3)⟩
/-- a comparison as a test -/
theorem vt_cmp {op : CmpOp} {f : Op2} (ho : OpR X (compareOp op) (rP2 W f)) (hm : behindInMarks op b = false) (ha : PE X a (tE W fa)) (hb : PE X b (tE W fb)) : PT X (.Compare a [op] [b] pos) (tT W (tBl (eOp2 f fa fb))) := by
  refine PT.imp (pt_cmpR ho ha hb hm) fun σ H Q ⟨σp, g, ads, v, g', hs, hg, hf, k⟩ => ?_
  obtain ⟨z, g0, hf, hz⟩ := bind_some hf
  obtain ⟨x, g1, h1, hf⟩ := bind_some hf
  obtain ⟨y, g2, h2, hf⟩ := bind_some hf
  refine ⟨σp, g, ads, x, g1, hs, hg, h1, fun x' H1 ads1 e1 r1 rx => ⟨σp, g1, ads1, y, g2, hs.mono e1, r1, h2, fun y' H2 ads2 e2 r2 ry => ?_⟩⟩
  refine ⟨x, y, g2, ads2, z, g0, lift_some hf, r2, rx.mono e2, ry, fun v' H' ads' e3 r3 rv => ?_⟩
  cases z with
  | bl c =>
    obtain ⟨rfl, rfl⟩ := ret_some hz
    exact ⟨_, rv_bl rv, k _ _ _ ((e1.trans e2).trans e3) r3 rfl⟩
  | _ => cases hz
theorem chain_read {f h : Op2} : ∀ σ H Q, tE W (eChain f h fa fb fc) σ H Q → tChain (rP2 W f) (rP2 W h) (tE W fa) (tE W fb) (tE W fc) σ H Q := by
  rintro σ H Q ⟨σp, g, ads, v, g', hs, hg, hf, k⟩
  obtain ⟨x, g1, h1, hf⟩ := bind_some hf
  obtain ⟨y, g2, h2, hf⟩ := bind_some hf
  refine ⟨σp, g, ads, x, g1, hs, hg, h1, fun x' H1 ads1 e1 r1 rx => ⟨σp, g1, ads1, y, g2, hs.mono e1, r1, h2, fun y' H2 ads2 e2 r2 ry => ?_⟩⟩
  try dsimp only at hf
  split at hf
  · rename_i g3 e
    obtain ⟨z, g4, h3, hf⟩ := bind_some hf
    refine ⟨x, y, g2, ads2, _, g3, e, r2, rx.mono e2, ry, fun v' H' ads' e3 r3 rv => ⟨true, rv_bl rv, ?_⟩⟩
    rw [if_pos rfl]
    refine ⟨σp, g3, ads', z, g4, ((hs.mono e1).mono e2).mono e3, r3, h3, fun z' H4 ads4 e4 r4 rz => ?_⟩
    exact ⟨y, z, g4, ads4, v, g', lift_some hf, r4, (ry.mono e3).mono e4, rz, fun v' H' ads' e5 => k _ _ _ ((((e1.trans e2).trans e3).trans e4).trans e5)⟩
  · rename_i g3 e
    cases hf
    refine ⟨x, y, g2, ads2, _, _, e, r2, rx.mono e2, ry, fun v' H' ads' e3 r3 rv => ⟨false, rv_bl rv, ?_⟩⟩
    rw [if_neg Bool.false_ne_true]
    exact k _ _ _ ((e1.trans e2).trans e3) r3 (mk_bl _)
  · cases hf
theorem ve_chain {op op' : CmpOp} {f h : Op2} (ho : OpR X (compareOp op) (rP2 W f)) (ho' : OpR X (compareOp op') (rP2 W h)) (ha : PE X a (tE W fa)) (hb : PE X b (tE W fb)) (hc : PE X c (tE W fc))
    (hm : behindInMarks op b = false) (hm' : behindInMarks op' c = false) : PE X (.Compare a [op, op'] [b, c] pos) (tE W (eChain f h fa fb fc)) := PE.imp (pe_chain ho ho' ha hb hc hm') chain_read
/-- a value that is a bool, as a test -/
theorem bl_read : ∀ σ H Q, tT W (tBl fa) σ H Q → tE W fa σ H fun x H1 => ∃ k, x = .bl k ∧ Q k H1 := by
  rintro σ H Q ⟨σp, g, ads, v, g', hs, hg, hf, k⟩
  obtain ⟨z, g0, hf1, hz⟩ := bind_some hf
  cases z with
  | bl c =>
    obtain ⟨rfl, rfl⟩ := ret_some hz
    exact ⟨σp, g, ads, _, _, hs, hg, hf1, fun v' H' ads' e3 r3 rv => ⟨_, rv_bl rv, k _ _ _ e3 r3 rfl⟩⟩
  | _ => cases hz
theorem vt_chain {op op' : CmpOp} {f h : Op2} (ho : OpR X (compareOp op) (rP2 W f)) (ho' : OpR X (compareOp op') (rP2 W h)) (ha : PE X a (tE W fa)) (hb : PE X b (tE W fb)) (hc : PE X c (tE W fc))
    (hm : behindInMarks op b = false) (hm' : behindInMarks op' c = false) : PT X (.Compare a [op, op'] [b, c] pos) (tT W (tBl (eChain f h fa fb fc))) :=
  PT.imp (pt_chain ho ho' ha hb hc hm') fun σ H Q q => chain_read _ _ _ (bl_read _ _ _ q)
theorem ve_un {op : UnaryOp} {f : Op1} (ho : UnR X (unaryOp op) (rP1 W f)) (ha : PE X a (tE W fa)) : PE X (.UnaryOp op a pos) (tE W (eOp1 f fa)) := by
  refine PE.imp (pe_un ho ha) fun σ H Q ⟨σp, g, ads, v, g', hs, hg, hf, k⟩ => ?_
  obtain ⟨x, g1, h1, hf⟩ := bind_some hf
  refine ⟨σp, g, ads, x, g1, hs, hg, h1, fun x' H1 ads1 e1 r1 rx => ?_⟩
  exact ⟨x, g1, ads1, v, g', lift_some hf, r1, rx, fun v' H' ads' e3 => k _ _ _ (e1.trans e3)⟩
/-! truth -/
theorem tru_rv (hK : W.K = X.K) {H : Hp} {ads : List Addr} {g : G} {p : PV} {x : V} {b : Bool} (hg : RG W H ads g) (h : tru p g = some b) (r : RV W H ads p x) : TruV X.K x H b := by
  cases p with
  | non => cases h; rw [rv_non r]; exact rfl
  | bl c => cases h; rw [rv_bl r]; exact rfl
  | int c => cases h; rw [rv_int r]; exact rfl
  | str c =>
    rw [rv_str r]
    simp only [tru] at h
    split at h
    · rename_i hz
      cases h
      refine ⟨le_line hz, ?_⟩
      cases c.length <;> rfl
    · cases h
  | tup l =>
    cases h
    obtain ⟨a, vs, rfl, h1, h2⟩ := rv_tup r
    exact .inr (.inl ⟨vs, .of h1, by rw [h2.isEmpty]⟩)
  | kt l =>
    cases h
    obtain ⟨a, vs, rfl, h1, h2⟩ := rv_kt r
    rw [hK] at h1
    exact .inr (.inl ⟨vs, h1, by rw [h2.isEmpty]⟩)
  | ref n =>
    obtain ⟨a, rfl, ha⟩ := rv_ref r
    simp only [tru] at h
    split at h
    · rename_i l e
      cases h
      obtain ⟨vs, h1, h2⟩ := hg.ob _ _ _ e ha
      exact .inl ⟨vs, .of h1, by rw [h2.isEmpty]⟩
    · rename_i l e
      cases h
      obtain ⟨vs, h1, h2⟩ := hg.ob _ _ _ e ha
      exact .inl ⟨vs, .inl h1, by rw [h2.isEmpty]⟩
    · rename_i l e
      cases h
      obtain ⟨vs, h1, h2⟩ := hg.ob _ _ _ e ha
      exact .inr (.inr ⟨vs, h1, by rw [h2.isEmpty]⟩)
    · cases h
  | sd l => cases h
theorem vt_tru (hK : W.K = X.K) (ha : PE X a (tE W fa)) (he : ∀ whole, isTrue a X.env whole = (do let v ← whole; standAt a.pos; holding [v] (truthy v))) : PT X a (tT W (tTru fa)) := by
  refine PT.imp (pt_truth ha he) fun σ H Q ⟨σp, g, ads, v, g', hs, hg, hf, k⟩ => ?_
  obtain ⟨x, g1, h1, hf⟩ := bind_some hf
  refine ⟨σp, g, ads, x, g1, hs, hg, h1, fun x' H1 ads1 e1 r1 rx => ?_⟩
  try dsimp only at hf
  split at hf
  · rename_i b e
    cases hf
    exact ⟨_, tru_rv hK r1 e rx, k _ _ _ e1 r1 rfl⟩
  · cases hf
theorem vt_not {t : ME Bool} (ha : PT X a (tT W t)) : PT X (.UnaryOp .Not a pos) (tT W (tNot t)) := by
  refine PT.imp (pt_not ha) fun σ H Q ⟨σp, g, ads, v, g', hs, hg, hf, k⟩ => ?_
  obtain ⟨x, g1, h1, hf⟩ := bind_some hf
  obtain ⟨rfl, rfl⟩ := ret_some hf
  exact ⟨σp, g, ads, x, g1, hs, hg, h1, fun x' H1 ads1 e1 r1 rx => by rw [← rx]; exact k _ _ _ e1 r1 rfl⟩
theorem vw_and1 {t : ME Bool} (ha : PT X a (tT W t)) : PW X (.BoolOp .And [a] pos) (tT W t) := pw_and1 ha
theorem vw_or1 {t : ME Bool} (ha : PT X a (tT W t)) : PW X (.BoolOp .Or [a] pos) (tT W t) := pw_or1 ha
theorem vw_and {t u : ME Bool} {rest : List Expr} (ha : PT X a (tT W t)) (hb : PW X (.BoolOp .And (b :: rest) pos) (tT W u)) : PW X (.BoolOp .And (a :: b :: rest) pos) (tT W (tAnd t u)) := by
  refine PW.imp (pw_and ha hb) fun σ H Q ⟨σp, g, ads, v, g', hs, hg, hf, k⟩ => ?_
  obtain ⟨x, g1, h1, hf⟩ := bind_some hf
  refine ⟨σp, g, ads, x, g1, hs, hg, h1, fun x' H1 ads1 e1 r1 rx => ?_⟩
  subst rx
  cases x with
  | true => exact ⟨σp, g1, ads1, v, g', hs.mono e1, r1, hf, fun b H' ads' e2 => k _ _ _ (e1.trans e2)⟩
  | false =>
    rw [if_neg Bool.false_ne_true] at hf
    obtain ⟨rfl, rfl⟩ := ret_some hf
    exact k _ _ _ e1 r1 rfl
theorem vw_or {t u : ME Bool} {rest : List Expr} (ha : PT X a (tT W t)) (hb : PW X (.BoolOp .Or (b :: rest) pos) (tT W u)) : PW X (.BoolOp .Or (a :: b :: rest) pos) (tT W (tOr t u)) := by
  refine PW.imp (pw_or ha hb) fun σ H Q ⟨σp, g, ads, v, g', hs, hg, hf, k⟩ => ?_
  obtain ⟨x, g1, h1, hf⟩ := bind_some hf
  refine ⟨σp, g, ads, x, g1, hs, hg, h1, fun x' H1 ads1 e1 r1 rx => ?_⟩
  subst rx
  cases x with
  | false => exact ⟨σp, g1, ads1, v, g', hs.mono e1, r1, hf, fun b H' ads' e2 => k _ _ _ (e1.trans e2)⟩
  | true =>
    rw [if_pos rfl] at hf
    obtain ⟨rfl, rfl⟩ := ret_some hf
    exact k _ _ _ e1 r1 rfl
theorem ve_orV (hK : W.K = X.K) {rest : List Expr} (ha : PE X a (tE W fa)) (hb : PE X (.BoolOp .Or (b :: rest) pos) (tE W fb)) : PE X (.BoolOp .Or (a :: b :: rest) pos) (tE W (eOr fa fb)) := by
  refine PE.imp (pe_orT ha hb) fun σ H Q ⟨σp, g, ads, v, g', hs, hg, hf, k⟩ => ?_
  obtain ⟨x, g1, h1, hf⟩ := bind_some hf
  refine ⟨σp, g, ads, x, g1, hs, hg, h1, fun x' H1 ads1 e1 r1 rx => ?_⟩
  try dsimp only at hf
  split at hf
  · rename_i e
    cases hf
    refine ⟨true, tru_rv hK r1 e rx, ?_⟩
    rw [if_pos rfl]
    exact k _ _ _ e1 r1 rx
  · rename_i e
    refine ⟨false, tru_rv hK r1 e rx, ?_⟩
    rw [if_neg Bool.false_ne_true]
    exact ⟨σp, g1, ads1, v, g', hs.mono e1, r1, hf, fun b H' ads' e2 => k _ _ _ (e1.trans e2)⟩
  · cases hf
theorem ve_andV (hK : W.K = X.K) {rest : List Expr} (ha : PE X a (tE W fa)) (hb : PE X (.BoolOp .And (b :: rest) pos) (tE W fb)) : PE X (.BoolOp .And (a :: b :: rest) pos) (tE W (eAnd fa fb)) := by
  refine PE.imp (pe_andT ha hb) fun σ H Q ⟨σp, g, ads, v, g', hs, hg, hf, k⟩ => ?_
  obtain ⟨x, g1, h1, hf⟩ := bind_some hf
  refine ⟨σp, g, ads, x, g1, hs, hg, h1, fun x' H1 ads1 e1 r1 rx => ?_⟩
  try dsimp only at hf
  split at hf
  · rename_i e
    refine ⟨true, tru_rv hK r1 e rx, ?_⟩
    rw [if_pos rfl]
    exact ⟨σp, g1, ads1, v, g', hs.mono e1, r1, hf, fun b H' ads' e2 => k _ _ _ (e1.trans e2)⟩
  · rename_i e
    cases hf
    refine ⟨false, tru_rv hK r1 e rx, ?_⟩
    rw [if_neg Bool.false_ne_true]
    exact k _ _ _ e1 r1 rx
  · cases hf
theorem ve_notV (hK : W.K = X.K) (ha : PE X a (tE W fa)) : PE X (.UnaryOp .Not a pos) (tE W (eBl (tNot (tTru fa)))) := by
  refine PE.imp (pe_notT ha) fun σ H Q ⟨σp, g, ads, v, g', hs, hg, hf, k⟩ => ?_
  obtain ⟨z, g0, hf1, hz⟩ := bind_some hf
  obtain ⟨e0, rfl⟩ := ret_some hz
  subst e0
  clear hf
  obtain ⟨z1, g3, hf2, hz1⟩ := bind_some hf1
  obtain ⟨e0, rfl⟩ := ret_some hz1
  subst e0
  obtain ⟨x, g1, h1, hf⟩ := bind_some hf2
  refine ⟨σp, g, ads, x, g1, hs, hg, h1, fun x' H1 ads1 e1 r1 rx => ?_⟩
  try dsimp only at hf
  split at hf
  · rename_i b e
    cases hf
    exact ⟨_, tru_rv hK r1 e rx, k _ _ _ e1 r1 (mk_bl _)⟩
  · cases hf
theorem ve_if {t : ME Bool} (hc : PT X c (tT W t)) (ha : PE X a (tE W fa)) (hb : PE X b (tE W fb)) : PE X (.IfExp c a b pos) (tE W (eIf t fa fb)) := by
  refine PE.imp (pe_ifExp hc ha hb) fun σ H Q ⟨σp, g, ads, v, g', hs, hg, hf, k⟩ => ?_
  obtain ⟨x, g1, h1, hf⟩ := bind_some hf
  refine ⟨σp, g, ads, x, g1, hs, hg, h1, fun x' H1 ads1 e1 r1 rx => ?_⟩
  subst rx
  cases x with
  | true =>
    rw [if_pos rfl]
    exact ⟨σp, g1, ads1, v, g', hs.mono e1, r1, hf, fun b H' ads' e2 => k _ _ _ (e1.trans e2)⟩
  | false =>
    rw [if_neg Bool.false_ne_true]
    exact ⟨σp, g1, ads1, v, g', hs.mono e1, r1, hf, fun b H' ads' e2 => k _ _ _ (e1.trans e2)⟩

/-! ### lists of expressions -/
def noStar : Expr → Bool
  | .Starred _ _ => false
  | _ => true
def noStars : List Expr → Bool
  | [] => true
  | e :: r => noStar e && noStars r
theorem star_one {e : Expr} {es : List Expr} {env : Env} (h : noStar e = true) : starEach (e :: es) env = (false, eval e env) :: starEach es env := by
  cases e <;> first | rfl | cases h
theorem star_none {env : Env} {pos : Pos} : ∀ {es : List Expr}, noStars es = true → (backTo pos (starEach es env)).any (·.1) = false
  | [], _ => rfl
  | e :: r, h => by
    unfold noStars at h
    rw [Bool.and_eq_true] at h
    rw [star_one h.1]
    show (false || (backTo pos (starEach r env)).any (·.1)) = false
    rw [star_none h.2]
    rfl
theorem star_all {env : Env} {pos : Pos} : ∀ {es : List Expr}, noStars es = true → (backTo pos (starEach es env)).all (fun x => !x.1) = true
  | [], _ => rfl
  | e :: r, h => by
    unfold noStars at h
    rw [Bool.and_eq_true] at h
    rw [star_one h.1]
    show (!false && (backTo pos (starEach r env)).all (fun x => !x.1)) = true
    rw [star_all h.2]
    rfl
theorem va_nil : PA X [] (tA W eNil) := by
  refine PA.imp pa_nil fun σ H Q ⟨σp, g, ads, v, g', hs, hg, hf, k⟩ => ?_
  obtain ⟨rfl, rfl⟩ := ret_some hf
  exact k _ _ _ .refl hg .nil
theorem va_cons {es : List Expr} {f : ME (List PV)} (hn : noStar a = true) (ha : PE X a (tE W fa)) (hr : PA X es (tA W f)) : PA X (a :: es) (tA W (eCons fa f)) := by
  refine PA.imp (pa_cons ha hr (star_one hn)) fun σ H Q ⟨σp, g, ads, v, g', hs, hg, hf, k⟩ => ?_
  obtain ⟨x, g1, h1, hf⟩ := bind_some hf
  obtain ⟨xs, g2, h2, hf⟩ := bind_some hf
  obtain ⟨rfl, rfl⟩ := ret_some hf
  refine ⟨σp, g, ads, x, g1, hs, hg, h1, fun x' H1 ads1 e1 r1 rx => ⟨σp, g1, ads1, xs, g2, hs.mono e1, r1, h2, fun y' H2 ads2 e2 r2 ry => ?_⟩⟩
  exact k _ _ _ (e1.trans e2) r2 (.cons (rx.mono e2) ry)
variable {es : List Expr} {fs : ME (List PV)}
theorem ve_tup {x1} (h : PA X es (tA W fs)) : PE X (.Tuple es x1 pos) (tE W (eTup fs)) := by
  refine PE.imp (pe_tup h) fun σ H Q ⟨σp, g, ads, v, g', hs, hg, hf, k⟩ => ?_
  obtain ⟨x, g1, h1, hf⟩ := bind_some hf
  try dsimp only at hf
  split at hf
  · rename_i hz
    cases hf
    refine ⟨σp, g, ads, x, _, hs, hg, h1, fun x' H1 ads1 e1 r1 rx => ⟨by rw [rx.length]; exact le_line hz, fun p hp => ?_⟩⟩
    exact Kn.tup (Kn.after k e1) r1 rx p hp
  · cases hf
theorem ve_lst (h : PA X es (tA W fs)) : PE X (.List es pos) (tE W (eLst fs)) := by
  refine PE.imp (pe_lst h) fun σ H Q ⟨σp, g, ads, v, g', hs, hg, hf, k⟩ => ?_
  obtain ⟨x, g1, h1, hf⟩ := bind_some hf
  try dsimp only at hf
  split at hf
  · rename_i hz
    cases hf
    refine ⟨σp, g, ads, x, _, hs, hg, h1, fun x' H1 ads1 e1 r1 rx => ⟨by rw [rx.length]; exact le_line hz, fun p hp => ?_⟩⟩
    exact Kn.lst (Kn.after k e1) r1 rx p hp
  · cases hf
theorem ve_dct0 : PE X (.Dict [] [] pos) (tE W eDct0) := by
  refine PE.imp pe_dnewK fun σ H Q ⟨σp, g, ads, v, g', hs, hg, hf, k⟩ p hp => ?_
  cases hf
  obtain ⟨g1, ex⟩ := hg.new (o := .dK []) (go := .dk []) hp fun e => ⟨[], upd_same, .nil⟩
  refine k _ _ _ ex g1 (mk_ref ?_)
  rw [← hg.len, List.getElem?_append_right (Nat.le_refl _), Nat.sub_self]
  rfl
/-! slices, subscripts -/
theorem vo_none : PO X none (tO W ePartN) := by
  refine PO.imp po_none fun σ H Q ⟨σp, g, ads, v, g', hs, hg, hf, k⟩ => ?_
  obtain ⟨rfl, rfl⟩ := ret_some hf
  exact k _ _ _ .refl hg rfl
theorem vo_some (h : PE X a (tE W fa)) : PO X (some a) (tO W (ePart fa)) := by
  refine PO.imp (po_some h) fun σ H Q ⟨σp, g, ads, v, g', hs, hg, hf, k⟩ => ?_
  obtain ⟨x, g1, h1, hf⟩ := bind_some hf
  refine ⟨σp, g, ads, x, g1, hs, hg, h1, fun x' H1 ads1 e1 r1 rx => ?_⟩
  cases x with
  | int i =>
    obtain ⟨rfl, rfl⟩ := ret_some hf
    exact ⟨i, rv_int rx, k _ _ _ e1 r1 rfl⟩
  | _ => cases hf
theorem ve_sl {lo hi : Option Expr} {fl fh : ME (Option Int)} {p2 : Pos} (hK : W.K = X.K) (ha : PE X a (tE W fa)) (hl : PO X lo (tO W fl)) (hh : PO X hi (tO W fh)) : PE X (.Subscript a (.Slice lo hi none p2) pos) (tE W (eSl fa fl fh)) := by
  refine PE.imp (pe_slice (ok_sl hK) ha hl hh) fun σ H Q ⟨σp, g, ads, v, g', hs, hg, hf, k⟩ => ?_
  obtain ⟨x, g1, h1, hf⟩ := bind_some hf
  obtain ⟨l, g2, h2, hf⟩ := bind_some hf
  obtain ⟨h, g3, h3, hf⟩ := bind_some hf
  refine ⟨σp, g, ads, x, g1, hs, hg, h1, fun x' H1 ads1 e1 r1 rx => ⟨σp, g1, ads1, l, g2, hs.mono e1, r1, h2, fun l' H2 ads2 e2 r2 rl => ⟨σp, g2, ads2, h, g3, (hs.mono e1).mono e2, r2, h3, fun h' H3 ads3 e3 r3 rh => ?_⟩⟩⟩
  subst rl rh
  exact ⟨x, g3, ads3, v, g', lift_some hf, r3, (rx.mono e2).mono e3, Kn.after k ((e1.trans e2).trans e3)⟩
def noSlice : Expr → Bool
  | .Slice _ _ _ _ => false
  | _ => true
theorem plainIx {b : Expr} (h : noSlice b = true) : PlainIx b := by
  intro o i
  cases b <;> first | rfl | cases h
theorem ve_ix (hK : W.K = X.K) (hw : W.w = X.w) (hu : X.A.units + 1 < cLine) (hb0 : noSlice b = true) (ha : PE X a (tE W fa)) (hb : PE X b (tE W fb)) : PE X (.Subscript a b pos) (tE W (eOp2 opIx fa fb)) := by
  refine PE.imp (pe_ix (ok_ix hK hw hu) ha hb (plainIx hb0)) fun σ H Q ⟨σp, g, ads, v, g', hs, hg, hf, k⟩ => ?_
  obtain ⟨x, g1, h1, hf⟩ := bind_some hf
  obtain ⟨y, g2, h2, hf⟩ := bind_some hf
  refine ⟨σp, g, ads, x, g1, hs, hg, h1, fun x' H1 ads1 e1 r1 rx => ⟨σp, g1, ads1, y, g2, hs.mono e1, r1, h2, fun y' H2 ads2 e2 r2 ry => ?_⟩⟩
  exact ⟨x, y, g2, ads2, v, g', lift_some hf, r2, rx.mono e2, ry, Kn.after k (e1.trans e2)⟩
/-! calls of built-ins -/
theorem ve_fnB {x : Str} {id : String} {f : OpN} {p : Pos} (hc : CallR X (.builtin id) (rPN W f)) (hg : Gl X x) (hm : X.mg x = none) (hv : bootBuiltins x = some (.builtin id)) (hn : x ≠ "__name__") (hd : (x == ("__debug__" : Str)) = false)
    (hs : noStars (a :: es) = true) (ha : PA X (a :: es) (tA W fs)) : PE X (.Call (.Name x p) (a :: es) [] pos) (tE W (eFn f fs)) := by
  have hs2 := hs
  unfold noStars at hs2
  rw [Bool.and_eq_true] at hs2
  refine PE.imp (pe_callB hc hg hm hv ha hn hd (star_one hs2.1) (star_none hs2.2)) fun σ H Q ⟨σp, g, ads, v, g', hs, hg, hf, k⟩ => ?_
  obtain ⟨x, g1, h1, hf⟩ := bind_some hf
  refine ⟨σp, g, ads, x, g1, hs, hg, h1, fun x' H1 ads1 e1 r1 rx => ?_⟩
  exact ⟨x, g1, ads1, v, g', lift_some hf, r1, rx, Kn.after k e1⟩
theorem ve_fnT {x : Str} {id : String} {f : OpN} {p : Pos} (hc : CallR X (.type id) (rPN W f)) (hg : Gl X x) (hm : X.mg x = none) (hv : bootBuiltins x = some (.type id)) (hn : x ≠ "__name__") (hd : (x == ("__debug__" : Str)) = false)
    (hs : noStars (a :: es) = true) (ha : PA X (a :: es) (tA W fs)) : PE X (.Call (.Name x p) (a :: es) [] pos) (tE W (eFn f fs)) := by
  have hs2 := hs
  unfold noStars at hs2
  rw [Bool.and_eq_true] at hs2
  refine PE.imp (pe_callTy hc hg hm hv ha hn hd (star_one hs2.1) (star_none hs2.2)) fun σ H Q ⟨σp, g, ads, v, g', hs, hg, hf, k⟩ => ?_
  obtain ⟨x, g1, h1, hf⟩ := bind_some hf
  refine ⟨σp, g, ads, x, g1, hs, hg, h1, fun x' H1 ads1 e1 r1 rx => ?_⟩
  exact ⟨x, g1, ads1, v, g', lift_some hf, r1, rx, Kn.after k e1⟩
/-! attributes -/
def okBase : Expr → Bool
  | .Call (.Name _ _) [] [] _ => false
  | _ => true
theorem base_eq {o : Expr} {m : Str} {env : Env} {whole : Sem Value} (h : okBase o = true) : attributeBase o m env whole = whole := by
  unfold attributeBase
  split
  · cases h
  · rfl
theorem ve_attr {f : Str} (hb : okBase a = true) (hn : ∀ c C, W.cls c = some C → NoAttr X.K C f) (hc : ∀ c C, W.cls c = some C → Cls X.K C) (ha : PE X a (tE W fa)) : PE X (.Attribute a f pos) (tE W (eAttr f fa)) := by
  refine PE.imp (pe_fld ha (base_eq hb)) fun σ H Q ⟨σp, g, ads, v, g', hs, hg, hf, k⟩ => ?_
  obtain ⟨x, g1, h1, hf⟩ := bind_some hf
  refine ⟨σp, g, ads, x, g1, hs, hg, h1, fun x' H1 ads1 e1 r1 rx => ?_⟩
  cases x with
  | ref n =>
    try dsimp only at hf
    obtain ⟨a, rfl, ha⟩ := rv_ref rx
    split at hf
    · rename_i c fs e
      split at hf
      · rename_i y ey
        cases hf
        obtain ⟨C, dx, fs', o1, o2, o3, o4⟩ := r1.ob _ _ _ e ha
        have rl := o3.lookup f
        rw [ey] at rl
        cases hl : fs'.lookup f with
        | none => rw [hl] at rl; exact rl.elim
        | some w =>
          rw [hl] at rl
          exact ⟨a, C, dx, fs', w, rfl, o1, hc _ _ o2, hn _ _ o2, hl, k _ _ _ e1 r1 rl⟩
      · cases hf
    · cases hf
  | _ => cases hf
end
end Vm
end

section
set_option maxRecDepth 100000
set_option maxHeartbeats 4000000
/-! VmF: methods, own defs, new instances, displays of dicts, isinstance. -/
namespace Vm
open PySem L2 PySem.Spec PyProof.Rows

def isL : PV → G → Bool
  | .ref r, g => match g[r]? with
    | some (.lst _) => true
    | _ => false
  | _, _ => false
def isD : PV → G → Bool
  | .ref r, g => match g[r]? with
    | some (.dk _) => true
    | some (.dt _) => true
    | _ => false
  | .sd _, _ => true
  | _, _ => false
def isS : PV → G → Bool
  | .str _, _ => true
  | _, _ => false
/-- what an own def promises -/
def spF (W : Wd) (call : CallT) (nm : FName) : Sp := fun vs H Q _ => ∃ args g ads v g', RG W H ads g ∧ RVs W H ads args vs ∧ call nm args g = some (.ok v g') ∧ Kn W H ads v g' Q

section
variable {X : Cx} {W : Wd} {a b c o e : Expr} {fa fb fc fo : ME PV} {pos cpos apos : Pos} {es : List Expr} {fs : ME (List PV)}
def RcvOk (X : Cx) (W : Wd) (T : String) (okp : PV → G → Bool) : Prop := ∀ (pins : List (Addr × Obj)) (s : Shared) (σ : L2.St) (H : Hp) (x : V) (v : Value) (p : PV) (g : G) (ads : List Addr), L2.Inv X pins σ H s → RelV x v → RG W H ads g → RV W H ads p x → okp p g = true →
  s.TypeIs v T ∧ ∀ a, v = .ref a → ∃ ob, s.heap.get? a = some ob ∧ ob.dict = none
theorem rcv_l : RcvOk X W "list" isL := by
  intro pins s σ H x v p g ads I rx hg hp h
  cases p with
  | ref r =>
    obtain ⟨a, rfl, ha⟩ := rv_ref hp
    simp only [isL] at h
    split at h
    · rename_i l e
      obtain ⟨vs, h1, h2⟩ := hg.ob _ _ _ e ha
      exact tyV_is I rx (show tyV X.K "list" (.ref a) H from .inl ⟨rfl, vs, .of h1⟩)
    · cases h
  | _ => cases h
theorem rcv_s : RcvOk X W "str" isS := by
  intro pins s σ H x v p g ads I rx hg hp h
  cases p with
  | str r =>
    obtain rfl := rv_str hp
    exact tyV_is I rx (show tyV X.K "str" (.str r) H from rfl)
  | _ => cases h
theorem rcv_d (hK : W.K = X.K) (hw : W.w = X.w) : RcvOk X W "dict" isD := by
  intro pins s σ H x v p g ads I rx hg hp h
  cases p with
  | ref r =>
    obtain ⟨a, rfl, ha⟩ := rv_ref hp
    simp only [isD] at h
    split at h
    · rename_i l e
      obtain ⟨vs, h1, h2⟩ := hg.ob _ _ _ e ha
      exact tyV_is I rx (show tyV X.K "dict" (.ref a) H from .inr (.inr (.inl ⟨rfl, .inl ⟨vs, h1⟩⟩)))
    · rename_i l e
      obtain ⟨vs, h1, h2⟩ := hg.ob _ _ _ e ha
      exact tyV_is I rx (show tyV X.K "dict" (.ref a) H from .inr (.inr (.inl ⟨rfl, .inr ⟨vs, h1⟩⟩)))
    · cases h
  | sd kvs =>
    obtain ⟨a, rfl, S⟩ := rv_sd hp
    obtain ⟨es, n, D⟩ := sd_kd hK hw S
    obtain rfl : v = Value.ref a := rx
    refine ⟨kd_type D I, fun b hb => ?_⟩
    cases hb
    exact ⟨_, I.kIn _ _ D.at_, rfl⟩
  | _ => cases h
theorem few_ok {env : Env} {n : Nat} (hs : noStars es = true) (hl : es.length < 29) : ((backTo cpos (starEach es env)).all (fun x => !x.1) && (backToKw cpos (keywordEach [] env)).all (fun x => x.1.isSome)
    && decide (es.length + ([] : List Keyword).length + (if ([] : List Keyword).isEmpty then 0 else 1) < 30)) = true := by
  rw [star_all hs]
  have e : decide (es.length + ([] : List Keyword).length + (if ([] : List Keyword).isEmpty then 0 else 1) < 30) = true := decide_eq_true (by simp; omega)
  rw [e]
  rfl
theorem ve_mt {T id : String} {name : Str} {f : OpN} {okp : PV → G → Bool} (pa : PlainAttrs T) (slot : Slot T name id) (hty : typeOf (.builtin id) = pure (.type "method_descriptor")) (hm : MtR X id (rPM W f)) (hok : RcvOk X W T okp)
    (ho : PE X o (tE W fo)) (ha : PA X es (tA W fs)) (hb : okBase o = true) (hline : (apos.endLine == cpos.line) = true) (hs : noStars es = true) (hl : es.length < 29) (h0 : es = [] → fs = eNil) :
    PE X (.Call (.Attribute o name apos) es [] cpos) (tE W (eMt okp f fo fs)) := by
  refine ⟨fun pins s σ H Q I ⟨σp, g, ads, v, g', hsl, hg, hf, k⟩ => ?_⟩
  obtain ⟨x, g1, h1, hf⟩ := bind_some hf
  try dsimp only at hf
  split at hf
  · rename_i hx
    obtain ⟨xs, g2, h2, hf⟩ := bind_some hf
    refine wpAny_Call_method_late (base_eq hb) (few_ok (n := 0) hs hl) hline rfl (thn (ho.run pins s σ H (fun x' H1 => ∃ ads1, Ext W H ads H1 ads1 ∧ RG W H1 ads1 g1 ∧ RV W H1 ads1 x x') I ⟨σp, g, ads, x, g1, hsl, hg, h1, fun x' H1 ads1 e1 r1 rx => ⟨ads1, e1, r1, rx⟩⟩) fun ov s1 ⟨x', H1, I1, rr, ads1, e1, r1, rx⟩ => ?_)
    obtain ⟨t1, t2⟩ := hok pins s1 σ H1 x' ov x g1 ads1 I1 rr r1 rx hx
    refine ⟨T, id, pa, slot, hty, t1, t2, ?_⟩
    have fin : wpAny (model X.prog X.w) X.A (spliced (backTo cpos (starEach es X.env))) (fun us s2 => wpAny (model X.prog X.w) X.A (call (.builtin id) (ov :: us)) (EP X pins σ Q) X.xe s2) X.xe s1 := by
      refine thn (ha.run cpos pins s1 σ H1 (fun xs' H2 => ∃ ads2, Ext W H1 ads1 H2 ads2 ∧ RG W H2 ads2 g2 ∧ RVs W H2 ads2 xs xs') I1 ⟨σp, g1, ads1, xs, g2, hsl.mono e1, r1, h2, fun x' H1 ads1 e1 r1 rx => ⟨ads1, e1, r1, rx⟩⟩) fun us s2 ⟨xs', H2, I2, rs, ads2, e2, r2, rxs⟩ => ?_
      exact hm pins s2 σ H2 x' xs' ov us Q I2 rr rs ⟨x :: xs, g2, ads2, v, g', lift_some hf, r2, .cons (rx.mono e2) rxs, Kn.after k (e1.trans e2)⟩
    cases es with
    | nil =>
      refine Calls.callWith_builtin rfl (PySem.evalArgs_none ?_)
      rw [h0 rfl] at h2
      obtain ⟨rfl, rfl⟩ := ret_some h2
      exact hm pins s1 σ H1 x' [] ov [] Q I1 rr .nil ⟨[x], g1, ads1, v, g', lift_some hf, r1, .cons rx .nil, Kn.after k e1⟩
    | cons e0 er =>
      unfold noStars at hs
      rw [Bool.and_eq_true] at hs
      have es0 := star_one (env := X.env) (es := er) hs.1
      rw [es0] at fin ⊢
      refine Calls.callWith_builtin (by show (false || (backTo cpos (starEach er X.env)).any (·.1)) = false; rw [star_none hs.2]; rfl) (Calls.evalArgs_plain fin)
  · cases hf

/-! ### own defs -/
structure FnAt (X : Cx) (W : Wd) (k : Nat) (call : CallT) (nm : FName) (f : Addr) : Prop where
  kp : PySem.W.keepIn X.K (.ref f) = true
  ok : ∃ fd ps, FnOk X.prog X.w X.K X.mg X.base CX0 k f fd ps (spF W call nm) ∧ Binds X.K fd ps []
theorem ve_call {k : Nat} {call : CallT} {nm : FName} {f : Addr} {x : Str} {p : Pos} (F : FnAt X W k call nm f) (hr : Room k X.A) (hg : Gl X x) (hm : X.mg x = some (.ref f)) (hd : (x == ("__debug__" : Str)) = false)
    (hs : noStars es = true) (ha : PA X es (tA W fs)) (h0 : es = [] → fs = eNil) : PE X (.Call (.Name x p) es [] pos) (tE W (eCall call nm fs)) := by
  obtain ⟨fd, ps, Gf, hb⟩ := F.ok
  cases es with
  | nil =>
    rw [h0 rfl]
    refine PE.imp (pe_call0 Gf hr hg hm F.kp hb .nil (pass0 (X := X)) hd) fun σ H Q ⟨σp, g, ads, v, g', hsl, hg, hf, k⟩ => ?_
    obtain ⟨xs, g1, h1, hf⟩ := bind_some hf
    obtain ⟨rfl, rfl⟩ := ret_some h1
    exact ⟨[], g, ads, v, g', hg, .nil, hf, k⟩
  | cons e0 er =>
    unfold noStars at hs
    rw [Bool.and_eq_true] at hs
    refine PE.imp (pe_call Gf hr hg hm F.kp hb .nil (pass0 (X := X)) ha hd (star_one hs.1) (star_none hs.2)) fun σ H Q ⟨σp, g, ads, v, g', hsl, hg, hf, k⟩ => ?_
    obtain ⟨xs, g1, h1, hf⟩ := bind_some hf
    refine ⟨σp, g, ads, xs, g1, hsl, hg, h1, fun xs' H1 ads1 e1 r1 rx => ?_⟩
    show spF W call nm (xs' ++ []) H1 Q E0
    rw [List.append_nil]
    exact ⟨xs, g1, ads1, v, g', r1, rx, hf, Kn.after k e1⟩
/-- a new instance -/
theorem ve_new {k : Nat} {call : CallT} {c : Str} {C f : Addr} {x : Str} {p : Pos} (hC : W.cls c = some C) (M : Mk X.K C f) (F : FnAt X W k call (c, "__init__") f) (hr : Room (k + 1) X.A) (hg : Gl X x) (hm : X.mg x = some (.ref C)) (hd : (x == ("__debug__" : Str)) = false)
    (hs : noStars es = true) (ha : PA X es (tA W fs)) (h0 : es = [] → fs = eNil) : PE X (.Call (.Name x p) es [] pos) (tE W (eNew call c fs)) := by
  obtain ⟨fd, ps, Gf, hb⟩ := F.ok
  have fin : ∀ {H : Hp} {Q : VK} {ads : List Addr} {g g' : G} {v : PV} {xs : List PV} {vs : List V}, RG W H ads g → RVs W H ads xs vs → Kn W H ads v g' Q →
      (match call (c, "__init__") (.ref g.length :: xs) (g ++ [.ins c []]) with | some (.ok .non g') => some (RE.ok (PV.ref g.length) g') | some (.exc x g') => some (.exc x g') | _ => none) = some (.ok v g') →
      ∀ x dx, H x = none → H dx = none → dx ≠ x → spF W call (c, "__init__") (.ref x :: (vs ++ [])) (upd (upd H dx (.own x)) x (.ins C dx [])) (fun v H2 => v = .non ∧ Q (.ref x) H2) E0 := by
    intro H Q ads g g' v xs vs hg rv k hf x dx hx hdx ne
    split at hf
    · rename_i g1 hc
      cases hf
      obtain ⟨r1, e1⟩ := hg.tup (o := .own x) hdx
      have hx1 : upd H dx (.own x) x = none := by rw [upd_ne ne.symm]; exact hx
      obtain ⟨r2, e2⟩ := r1.new (o := .ins C dx []) (go := .ins c []) hx1 fun _ => ⟨C, dx, [], upd_same, hC, .nil, rfl⟩
      have hn : (ads ++ [x])[g.length]? = some x := by
        rw [← hg.len, List.getElem?_append_right (Nat.le_refl _), Nat.sub_self]
        rfl
      refine ⟨.ref g.length :: xs, g ++ [.ins c []], ads ++ [x], .non, _, r2, .cons (mk_ref hn) (by rw [List.append_nil]; exact (rv.mono e1).mono e2), hc, fun v' H' ads' e3 r3 rv' => ⟨rv_non rv', ?_⟩⟩
      exact k _ _ _ ((e1.trans e2).trans e3) r3 (mk_ref (e3.get hn))
    · cases hf
    · cases hf
  cases es with
  | nil =>
    rw [h0 rfl]
    refine PE.imp (pe_make0 M Gf hr hg hm hb .nil (pass0 (X := X)) hd) fun σ H Q ⟨σp, g, ads, v, g', hsl, hg, hf, k⟩ => ?_
    obtain ⟨xs, g1, h1, hf⟩ := bind_some hf
    obtain ⟨rfl, rfl⟩ := ret_some h1
    exact fin hg .nil k hf
  | cons e0 er =>
    unfold noStars at hs
    rw [Bool.and_eq_true] at hs
    refine PE.imp (pe_make M Gf hr hg hm hb .nil (pass0 (X := X)) ha hd (star_one hs.1) (star_none hs.2)) fun σ H Q ⟨σp, g, ads, v, g', hsl, hg, hf, k⟩ => ?_
    obtain ⟨xs, g1, h1, hf⟩ := bind_some hf
    exact ⟨σp, g, ads, xs, g1, hsl, hg, h1, fun xs' H1 ads1 e1 r1 rx => fin r1 rx (Kn.after k e1) hf⟩
theorem eval_meth {env : Env} {m : Str} (hb : okBase o = true) (hline : (apos.endLine == cpos.line) = true) (hs : noStars es = true) (hl : es.length < 29) :
    eval (.Call (.Attribute o m apos) es [] cpos) env = (do
      let ov ← eval o env
      standAt apos.atName
      let (f, first) ← holding [ov] (getMethod ov m (do return (← importBound o env).getD true))
      callWith cpos f first (backTo cpos (starEach es env)) (backToKw cpos (keywordEach [] env))) := by
  rw [arm_eval_Call, base_eq hb]
  have few : methodCallForm (es.length + ([] : List Keyword).length) (backTo cpos (starEach es env)) (backToKw cpos (keywordEach [] env)) = true := few_ok (n := 0) hs hl
  have one : ∀ ov, methodCall o m apos cpos env ov (es.length + ([] : List Keyword).length) (backTo cpos (starEach es env)) (backToKw cpos (keywordEach [] env)) = (do
      let (f, first) ← holding [ov] (getMethod ov m (do return (← importBound o env).getD true))
      callWith cpos f first (backTo cpos (starEach es env)) (backToKw cpos (keywordEach [] env))) := by
    intro ov
    unfold methodCall calleeOf methodCallPos
    rw [few, hline]
    rfl
  simp only [one]
/-- an own method, by the receiver's class -/
theorem ve_meth {k : Nat} {call : CallT} {m : Str} (hM : ∀ c C xs g r, W.cls c = some C → call (c, m) xs g = some r → ∃ f, Meth X.K C m f ∧ FnAt X W k call (c, m) f) (hc : ∀ c C, W.cls c = some C → Cls X.K C) (hat : W.isAttr m = false) (hr : Room k X.A)
    (hb : okBase o = true) (hline : (apos.endLine == cpos.line) = true) (hs : noStars es = true) (hl : es.length < 29) (ho : PE X o (tE W fo)) (ha : PA X es (tA W fs)) (h0 : es = [] → fs = eNil) :
    PE X (.Call (.Attribute o m apos) es [] cpos) (tE W (eMeth call m fo fs)) := by
  refine ⟨fun pins s σ H Q I ⟨σp, g, ads, v, g', hsl, hg, hf, k⟩ => ?_⟩
  obtain ⟨x, g1, h1, hf⟩ := bind_some hf
  cases x with
  | ref n =>
    dsimp only at hf
    split at hf
    · rename_i c fl ec
      obtain ⟨xs, g2, h2, hf⟩ := bind_some hf
      refine PySem.W.methodCall_KW (thn (ho.run pins s σ H (fun x' H1 => ∃ ads1, Ext W H ads H1 ads1 ∧ RG W H1 ads1 g1 ∧ RV W H1 ads1 (.ref n) x') I ⟨σp, g, ads, _, g1, hsl, hg, h1, fun x' H1 ads1 e1 r1 rx => ⟨ads1, e1, r1, rx⟩⟩) fun ov s1 ⟨x', H1, I1, rr, ads1, e1, r1, rx⟩ => ?_) (eval_meth hb hline hs hl)
      obtain ⟨a, rfl, ha1⟩ := rv_ref rx
      obtain rfl : ov = Value.ref a := rr
      obtain ⟨C, dx, fs', o1, o2, o3, o4⟩ := r1.ob _ _ _ ec ha1
      obtain ⟨f, M, F⟩ := hM _ _ _ _ _ o2 hf
      obtain ⟨fd, ps, Gf, hbd⟩ := F.ok
      refine getmeth_ok I1 o1 (hc _ _ o2) M (no_field hat o3 o4) ?_
      have fin : ∀ {pins : List (Addr × Obj)} {s2 : Shared} {H2 : Hp} {ads2 : List Addr} {us : List Value} {vs : List V}, L2.Inv X pins σ H2 s2 → Ext W H1 ads1 H2 ads2 → RG W H2 ads2 g2 → RVs W H2 ads2 xs vs → Vals vs us →
          wpAny (model X.prog X.w) X.A (PySem.call (.ref f) (.ref a :: us)) (EP X pins σ Q) X.xe s2 := by
        intro pins s2 H2 ads2 us vs I2 e2 r2 rxs rs
        refine run_fn (us := .ref a :: us) (vs := .ref a :: vs) Gf hr hbd .nil (pass0 (X := X)) I2 (.cons rfl rs) ?_
        rw [List.append_nil]
        exact ⟨.ref n :: xs, g2, ads2, v, g', r2, .cons (rx.mono e2) rxs, hf, Kn.after k (e1.trans e2)⟩
      cases es with
      | nil =>
        rw [h0 rfl] at h2
        obtain ⟨rfl, rfl⟩ := ret_some h2
        exact PySem.W.callWith_K0 (first := [.ref a]) I1.kIn M.kp (fin (us := []) I1 .refl r1 .nil .nil)
      | cons e0 er =>
        unfold noStars at hs
        rw [Bool.and_eq_true] at hs
        refine PySem.W.callWith_K (first := [.ref a]) (h₀ := X.base) I.ok.mod.kin M.kp (thn (ha.run cpos pins s1 σ H1 (fun xs' H2 => ∃ ads2, Ext W H1 ads1 H2 ads2 ∧ RG W H2 ads2 g2 ∧ RVs W H2 ads2 xs xs') I1 ⟨σp, g1, ads1, xs, g2, hsl.mono e1, r1, h2, fun x' H1 ads1 e1 r1 rx => ⟨ads1, e1, r1, rx⟩⟩) fun us s2 ⟨xs', H2, I2, rs, ads2, e2, r2, rxs⟩ => ⟨I2.kIn, ?_⟩) (star_one hs.1) (star_none hs.2)
        exact fin I2 e2 r2 rxs rs
    · cases hf
  | _ => cases hf

/-! ### displays of dicts -/
theorem vpairs : ∀ {ps : List (ME PV × ME PV)} {σ : L2.St} {H : Hp} {Q : List (V × V) → Hp → Prop} {σp : Sl} {g : G} {ads : List Addr} {kvs : List (Key × PV)} {g' : G}, RSl W H ads σp σ → RG W H ads g →
    ePairs ps σp g = some (.ok kvs g') → (∀ H' ads' ks, Ext W H ads H' ads' → RG W H' ads' g' → RKs W H' ads' kvs ks → Q (ks.map fun kv => (kV kv.1, kv.2)) H') → tPairs (ps.map fun q => (tE W q.1, tE W q.2)) σ H Q
  | [], σ, H, Q, σp, g, ads, kvs, g', hsl, hg, hf, k => by
    obtain ⟨rfl, rfl⟩ := ret_some hf
    exact k H ads [] .refl hg .nil
  | (fk, fv) :: r, σ, H, Q, σp, g, ads, kvs, g', hsl, hg, hf, k => by
    obtain ⟨x, g1, h1, hf⟩ := bind_some hf
    obtain ⟨y, g2, h2, hf⟩ := bind_some hf
    obtain ⟨qs, g3, h3, hf⟩ := bind_some hf
    try dsimp only at hf
    split at hf
    · rename_i q ek
      cases hf
      refine ⟨σp, g, ads, x, g1, hsl, hg, h1, fun x' H1 ads1 e1 r1 rx => ⟨σp, g1, ads1, y, g2, hsl.mono e1, r1, h2, fun y' H2 ads2 e2 r2 ry => ?_⟩⟩
      refine vpairs ((hsl.mono e1).mono e2) r2 h3 fun H' ads' ks e3 r3 rk => ?_
      have := k H' ads' ((q, y') :: ks) ((e1.trans e2).trans e3) r3 (.cons (ry.mono e3) rk)
      rw [List.map_cons, ← keyOf_rv ek rx] at this
      exact this
    · cases hf
theorem ePairs_len : ∀ {ps : List (ME PV × ME PV)} {σp : Sl} {g g' : G} {kvs : List (Key × PV)}, ePairs ps σp g = some (.ok kvs g') → kvs.length = ps.length
  | [], _, _, _, _, hf => by obtain ⟨rfl, rfl⟩ := ret_some hf; rfl
  | (fk, fv) :: r, _, _, _, _, hf => by
    obtain ⟨x, g1, h1, hf⟩ := bind_some hf
    obtain ⟨y, g2, h2, hf⟩ := bind_some hf
    obtain ⟨qs, g3, h3, hf⟩ := bind_some hf
    try dsimp only at hf
    split at hf
    · cases hf
      rw [List.length_cons, List.length_cons, ePairs_len h3]
    · cases hf
theorem ve_dct {keys : List (Option Expr)} {values : List Expr} {ps : List (ME PV × ME PV)} (h : PPs X pos keys values (ps.map fun q => (tE W q.1, tE W q.2))) (hall : keys.all (·.isSome) = true) (hl : keys.length = values.length) (h0 : keys ≠ []) (h15 : keys.length ≤ 15)
    (hp : ps.length = keys.length) : PE X (.Dict keys values pos) (tE W (eDct ps)) := by
  refine PE.imp (pe_disp h hall hl h0 h15) fun σ H Q ⟨σp, g, ads, v, g', hsl, hg, hf, k⟩ p hpn => ?_
  obtain ⟨r1, e1⟩ := hg.new (o := .dK []) (go := .dk []) hpn fun e => ⟨[], upd_same, .nil⟩
  have hn : (ads ++ [p])[g.length]? = some p := by
    rw [← hg.len, List.getElem?_append_right (Nat.le_refl _), Nat.sub_self]
    rfl
  unfold eDct at hf
  split at hf
  · rename_i kvs g2 ep
    split at hf
    · rename_i ed
      cases hf
      refine vpairs (hsl.mono e1) r1 ep fun H' ads' ks e2 r2 rk => ?_
      obtain ⟨ks0, h1, h2⟩ := r2.ob _ _ _ ed (e2.get hn)
      rw [h2.nil_eq] at h1
      refine ⟨h1, ks, rfl, by rw [rk.length, ePairs_len ep, hp]; exact h15, ?_⟩
      obtain ⟨r3, e3⟩ := r2.put (o := .dK (mergeK [] ks)) (go := .dk (mergeD [] kvs)) (e2.get hn) (no_tup h1 (fun _ z => nomatch z) (fun _ _ z => nomatch z)) fun e => ⟨_, upd_same, RKs.merge (rk.mono e) .nil⟩
      exact k _ _ _ ((e1.trans e2).trans e3) r3 (mk_ref (e3.get (e2.get hn)))
    · cases hf
  · cases hf
  · cases hf

/-! ### isinstance -/
def tyNames : List String := ["int", "bool", "str", "tuple", "list", "dict"]
theorem kit_all {K : PySem.W.Frag} {t : String} (ht : t ∈ tyNames) : PySem.W.kitOne K (.type "NoneType") (.type t) = some false ∧ PySem.W.kitOne K (.type "bool") (.type t) = some (t == "bool" || t == "int") ∧ PySem.W.kitOne K (.type "int") (.type t) = some (t == "int") ∧
    PySem.W.kitOne K (.type "str") (.type t) = some (t == "str") ∧ PySem.W.kitOne K (.type "tuple") (.type t) = some (t == "tuple") ∧ PySem.W.kitOne K (.type "list") (.type t) = some (t == "list") ∧ PySem.W.kitOne K (.type "dict") (.type t) = some (t == "dict") := by
  have key : ∀ t ∈ tyNames, kitB "NoneType" t = some false ∧ kitB "bool" t = some (t == "bool" || t == "int") ∧ kitB "int" t = some (t == "int") ∧ kitB "str" t = some (t == "str") ∧ kitB "tuple" t = some (t == "tuple") ∧ kitB "list" t = some (t == "list") ∧ kitB "dict" t = some (t == "dict") := by decide +kernel
  exact key t ht
theorem isTy_ok (hK : W.K = X.K) {H : Hp} {ads : List Addr} {g : G} {p : PV} {x : V} {t : String} {b : Bool} (ht : t ∈ tyNames) (hg : RG W H ads g) (h : isTy t p g = some b) (r : RV W H ads p x) : ∃ u, TyX X.K H x u ∧ PySem.W.kitOne X.K u (.type t) = some b := by
  obtain ⟨k1, k2, k3, k4, k5, k6, k7⟩ := kit_all (K := X.K) ht
  cases p with
  | non => cases h; rw [rv_non r]; exact ⟨_, .base .non, k1⟩
  | bl c => cases h; rw [rv_bl r]; exact ⟨_, .base (.bl _), k2⟩
  | int c => cases h; rw [rv_int r]; exact ⟨_, .base (.int _), k3⟩
  | str c => cases h; rw [rv_str r]; exact ⟨_, .base (.str _), k4⟩
  | tup l =>
    cases h
    obtain ⟨a, vs, rfl, h1, h2⟩ := rv_tup r
    exact ⟨_, .base (.tup h1), k5⟩
  | kt l =>
    cases h
    unfold RV at r
    obtain ⟨a, vs, rfl, ⟨ob, its, n, q1, q2, _⟩, h2⟩ := r
    rw [hK] at q1
    exact ⟨_, .kTuple q1 q2, k5⟩
  | ref n =>
    obtain ⟨a, rfl, ha⟩ := rv_ref r
    simp only [isTy] at h
    split at h
    · rename_i l e
      cases h
      obtain ⟨vs, h1, h2⟩ := hg.ob _ _ _ e ha
      exact ⟨_, .base (.lst h1), k6⟩
    · rename_i l e
      cases h
      obtain ⟨vs, h1, h2⟩ := hg.ob _ _ _ e ha
      rcases h1 with h1 | ⟨ob, h1⟩
      · exact ⟨_, .base (.lst h1), k6⟩
      · exact ⟨_, .base (.frz h1), k6⟩
    · rename_i l e
      cases h
      obtain ⟨vs, h1, h2⟩ := hg.ob _ _ _ e ha
      exact ⟨_, .base (.dK h1), k7⟩
    · rename_i l e
      cases h
      obtain ⟨vs, h1, h2⟩ := hg.ob _ _ _ e ha
      exact ⟨_, .base (.dT h1), k7⟩
    · cases h
  | sd l => cases h
theorem ve_isTy (hK : W.K = X.K) {t : String} {y : Str} {p p2 : Pos} (ht : t ∈ tyNames) (hg : Gl X "isinstance") (hm : X.mg "isinstance" = none) (hg2 : Gl X y) (hm2 : X.mg y = none) (hv2 : bootBuiltins y = some (.type t)) (hn2 : y ≠ "__name__") (hd2 : (y == ("__debug__" : Str)) = false)
    (hs : noStar a = true) (ha : PE X a (tE W fa)) : PE X (.Call (.Name "isinstance" p) [a, .Name y p2] [] pos) (tE W (eIsTy [t] fa)) := by
  have h2 : PE X (.Name y p2) (tC (.ty t)) := pe_bltn hg2 hm2 hv2 rfl hn2 hd2
  refine PE.imp (pe_callB call_isi hg hm (by decide +kernel) (pa_cons ha (pa_cons h2 pa_nil) (star_one hs)) (by decide) (by decide) (star_one hs)) fun σ H Q ⟨σp, g, ads, v, g', hsl, hg, hf, k⟩ => ?_
  obtain ⟨x, g1, h1, hf⟩ := bind_some hf
  refine ⟨σp, g, ads, x, g1, hsl, hg, h1, fun x' H1 ads1 e1 r1 rx => ?_⟩
  dsimp only at hf
  split at hf
  · rename_i b e
    cases hf
    obtain ⟨u, q1, q2⟩ := isTy_ok hK ht r1 e rx
    exact ⟨x', .ty t, u, .type t, b, rfl, .ty t, q1, q2, k _ _ _ e1 r1 (mk_bl _)⟩
  · cases hf
end
end Vm
end

section
set_option maxRecDepth 100000
set_option maxHeartbeats 4000000
/-! VmG: what is walked. -/
namespace Vm
open PySem L2 PySem.Spec PyProof.Rows

def SrcOk (W : Wd) (H0 : Hp) (ads0 : List Addr) (src : Src) (J : It) : Prop := ∀ (i : Nat) (H : Hp) (ads : List Addr) (g : G), Ext W H0 ads0 H ads → RG W H ads g →
  (src.item i g = some none → J.stop i H) ∧ ∀ p, src.item i g = some (some p) → J.go i H ∧ ∀ x H', J.yld i H x H' → Ext W H ads H' ads ∧ RG W H' ads g ∧ RV W H' ads p x
def tI (W : Wd) (m : MI) : TI := fun σ H R => ∃ σp g ads src g', RSl W H ads σp σ ∧ RG W H ads g ∧ m σp g = some (.ok src g') ∧ ∀ J H' ads', Ext W H ads H' ads' → RG W H' ads' g' → SrcOk W H' ads' src J → R J H'
theorem PI.imp {X : Cx} {tg it : Expr} {t t' : TI} (h : PI X tg it t) (k : ∀ σ H R, t' σ H R → t σ H R) : PI X tg it t' := ⟨fun pins s σ H R I q => h.run pins s σ H R I (k σ H R q)⟩

/-! ### the sources as they stand -/
inductive CB where
  | lst (a : Addr) | tup (a : Addr) | str (x : Str) (t : Tok)
def signsV (x : Str) : List V := x.cps.toList.map fun c => V.str ⟨#[c]⟩
def CB.still (K : PySem.W.Frag) (H : Hp) : CB → List V → Prop
  | .lst a, xs => SqL K H a xs
  | .tup a, xs => SqT K H a xs
  | .str x _, xs => xs = signsV x
def CB.itr (h : Heap) (it : Addr) (i : Nat) : CB → Prop
  | .lst a => h.IsListIter it a i
  | .tup a => h.IsTupleIter it a i
  | .str x t => h.IsStrIter it (strIterType x) x t i
def CB.own : CB → List Addr
  | .lst a => [a]
  | .tup a => [a]
  | .str _ _ => []
def CB.val : CB → Value
  | .lst a => .ref a
  | .tup a => .ref a
  | .str x t => .str x t
def CB.obj : CB → Obj
  | .lst a => { cls := .type "list_iterator", data := .fields #[.ref a, .int 0 0] }
  | .tup a => { cls := .type "tuple_iterator", data := .fields #[.ref a, .int 0 0] }
  | .str x t => { cls := .type (strIterType x), data := .fields #[.str x t, .int 0 0] }
/-- the pure source and the one that stands -/
def BsOk (W : Wd) (H : Hp) (ads : List Addr) : Bs → CB → Prop
  | .lst r, .lst a => ads[r]? = some a
  | .tup l, .tup a => ∃ vs, H a = some (.tup vs) ∧ RVs W H ads l vs
  | .str x, .str y _ => x = y
  | _, _ => False
theorem BsOk.mono {W : Wd} {H H' : Hp} {ads ads' : List Addr} {b : Bs} {c : CB} (h : BsOk W H ads b c) (e : Ext W H ads H' ads') : BsOk W H' ads' b c := by
  cases b <;> cases c <;> first | exact h.elim | skip
  · exact e.get h
  · obtain ⟨vs, h1, h2⟩ := h
    exact ⟨vs, e.tup _ _ h1, h2.mono e⟩
  · exact h
theorem signs_rv {W : Wd} {H : Hp} {ads : List Addr} (x : Str) : RVs W H ads (signs x) (signsV x) := by
  unfold signs signsV
  generalize x.cps.toList = l
  induction l with
  | nil => exact .nil
  | cons c l ih => exact .cons (mk_str _) ih
theorem bs_still {W : Wd} {K : PySem.W.Frag} (hK : W.K = K) {H : Hp} {ads : List Addr} {g : G} {b : Bs} {c : CB} {l : List PV} (hg : RG W H ads g) (h : BsOk W H ads b c) (hi : b.items g = some l) : ∃ vs, c.still K H vs ∧ RVs W H ads l vs := by
  subst hK
  cases b <;> cases c <;> first | exact h.elim | skip
  · obtain ⟨a, xs, e, h1, h2⟩ := seqL_at (v := .ref _) hg hi (mk_ref h)
    cases e
    exact ⟨xs, h1, h2⟩
  · cases hi
    obtain ⟨vs, h1, h2⟩ := h
    exact ⟨vs, .of h1, h2⟩
  · cases hi
    obtain rfl : _ = _ := h
    exact ⟨_, rfl, signs_rv _⟩
theorem still_inj {X : Cx} {pins : List (Addr × Obj)} {σ : L2.St} {H : Hp} {s : Shared} (I : L2.Inv X pins σ H s) {c : CB} {xs ys : List V} (h : c.still X.K H xs) (k : c.still X.K H ys) : xs = ys := by
  cases c with
  | lst a => exact I.list_inj h k
  | tup a => exact I.tuple_inj h k
  | str x t => exact Eq.trans h (Eq.symm k)
theorem draws {X : Cx} {pins : List (Addr × Obj)} {σ : L2.St} {H : Hp} {s : Shared} (I : L2.Inv X pins σ H s) {A : Around} (hh : A.handled = none) {c : CB} {xs : List V} {it : Addr} (h : c.still X.K H xs) (hne : ∀ a ∈ c.own, a ≠ it) :
    ∃ (Pd : Nat → Value → Prop) (S : Nat → Heap → Prop), Draws X.prog X.w A it (it :: c.own) xs.length Pd S ∧ (∀ i, c.itr s.heap it i → S i s.heap) ∧ (∀ i h, S i h → c.itr h it i) ∧ ∀ i v, Pd i v → ∃ x, xs[i]? = some x ∧ RelV x v := by
  cases c with
  | lst a =>
    obtain ⟨its, rv, p, hz⟩ := I.list h
    have hl : its.toArray.size = xs.length := by rw [List.size_toArray]; exact rv.length.symm
    rw [← hl]
    refine ⟨_, _, Draws.list hh it a (hne a (by simp [CB.own])) its.toArray, fun i q => ⟨q, p.isList⟩, fun i h q => q.1, fun i v q => ?_⟩
    have hi : i < its.length := by
      have := (Array.getElem?_eq_some_iff.mp q).1
      simpa using this
    rw [List.size_toArray] at hl
    have hx : i < xs.length := by omega
    obtain ⟨u, e1, e2⟩ := rv.get (List.getElem?_eq_getElem hx)
    have e3 : its.toArray[i]? = some u := by simpa using e1
    rw [e3] at q
    cases q
    exact ⟨_, List.getElem?_eq_getElem hx, e2⟩
  | tup a =>
    obtain ⟨its, rv, p, hz⟩ := I.tuple h
    have hl : its.toArray.size = xs.length := by rw [List.size_toArray]; exact rv.length.symm
    rw [← hl]
    refine ⟨_, _, Draws.tuple hh it a (hne a (by simp [CB.own])) its.toArray, fun i q => ⟨q, show s.heap.IsTuple a its.toArray from p⟩, fun i h q => q.1, fun i v q => ?_⟩
    have hi : i < its.length := by
      have := (Array.getElem?_eq_some_iff.mp q).1
      simpa using this
    rw [List.size_toArray] at hl
    have hx : i < xs.length := by omega
    obtain ⟨u, e1, e2⟩ := rv.get (List.getElem?_eq_getElem hx)
    have e3 : its.toArray[i]? = some u := by simpa using e1
    rw [e3] at q
    cases q
    exact ⟨_, List.getElem?_eq_getElem hx, e2⟩
  | str x t =>
    obtain rfl : xs = signsV x := h
    have hl : x.cps.size = (signsV x).length := by simp [signsV]
    rw [← hl]
    refine ⟨_, _, Draws.text hh it x t, fun i q => q, fun i h q => q, fun i v q => ?_⟩
    obtain ⟨c, u, e1, rfl⟩ := q
    refine ⟨.str ⟨#[c]⟩, ?_, ⟨u, rfl⟩⟩
    unfold signsV
    rw [List.getElem?_map]
    have : x.cps.toList[i]? = some c := by simpa using e1
    rw [this]
    rfl
theorem itr_keep {h h' : Heap} {it : Addr} {i : Nat} {c : CB} (k : ∀ o, h.get? it = some o → h'.get? it = some o) (q : c.itr h it i) : c.itr h' it i := by
  cases c with
  | lst a => exact q.at fun o e => k o e
  | tup a => exact q.at fun o e => k o e
  | str x t => exact let ⟨o, ho, r⟩ := q; ⟨o, k o ho, r⟩
theorem itr_obj {h : Heap} {it : Addr} {i : Nat} {c : CB} (q : c.itr h it i) : ∃ o, h.get? it = some o ∧ ∀ v, o.data ≠ .cell v := by
  cases c <;> exact let ⟨o, e, _, d⟩ := q; ⟨o, e, fun v z => by rw [d] at z; cases z⟩
/-- what a source is iterated by -/
theorem begins_of {X : Cx} {pins : List (Addr × Obj)} {σ : L2.St} {H : Hp} {s : Shared} (I : L2.Inv X pins σ H s) {c : CB} {xs : List V} (h : c.still X.K H xs) : ∃ Hb : Heap → Prop, Begins c.val c.obj Hb ∧ Hb s.heap := by
  cases c with
  | lst a =>
    obtain ⟨its, rv, p, hz⟩ := I.list h
    exact ⟨_, begins_list a its.toArray, p.isList⟩
  | tup a =>
    obtain ⟨its, rv, p, hz⟩ := I.tuple h
    exact ⟨_, begins_tuple a its.toArray, show s.heap.IsTuple a its.toArray from p⟩
  | str x t => exact ⟨_, begins_text x t, trivial⟩
theorem own_lt {X : Cx} {pins : List (Addr × Obj)} {σ : L2.St} {H : Hp} {s : Shared} (I : L2.Inv X pins σ H s) {c : CB} {xs : List V} (h : c.still X.K H xs) : ∀ a ∈ c.own, a < s.heap.objs.size := by
  intro a ha
  cases c with
  | lst b =>
    obtain rfl : a = b := by simpa [CB.own] using ha
    obtain ⟨its, rv, p, hz⟩ := I.list h
    exact p.lt
  | tup b =>
    obtain rfl : a = b := by simpa [CB.own] using ha
    obtain ⟨its, rv, p, hz⟩ := I.tuple h
    exact p.lt
  | str x t => cases ha

/-! ### zip -/
def ItzG (K : PySem.W.Frag) (c d : CB) : It :=
  ⟨fun i H => ∃ xs ys, c.still K H xs ∧ d.still K H ys ∧ i < xs.length ∧ i < ys.length,
   fun i H x H' => ∃ (T : Addr) (p q : V), x = .ref T ∧ H T = none ∧ H' = upd H T (.tup [p, q]) ∧ (∀ xs, c.still K H xs → xs[i]? = some p) ∧ ∀ ys, d.still K H ys → ys[i]? = some q,
   fun i H => ∃ xs ys, c.still K H xs ∧ d.still K H ys ∧ (i = xs.length ∧ i ≤ ys.length ∨ i ≤ xs.length ∧ i = ys.length)⟩
theorem turn_zipG {P : Program} {w : World} {K : PySem.W.Frag} {elts : List Expr} {kk : Nat} {tpos : Pos} {c d : CB} {z TI TO i1 i2 : Addr} (D : ZipSep2 z TI TO i1 i2 (i1 :: c.own) (i2 :: d.own)) (n1 : ∀ a ∈ c.own, a ≠ i1) (n2 : ∀ a ∈ d.own, a ≠ i2) :
    Turn P w K (.Tuple elts kk tpos) (ItzG K c d) [z, TI, TO, i1, i2] z (fun i h => IsZip h z TI TO .none ∧ IsTupOf2 h TI (.ref i1) (.ref i2) ∧ (∃ x y, IsTupOf2 h TO x y) ∧ c.itr h i1 i ∧ d.itr h i2 i) where
  mem := by simp
  obj := fun i h st b hb => by
    obtain ⟨hz, hTI, ⟨x, y, hTO⟩, h1, h2⟩ := st
    have e' : b = z ∨ b = TI ∨ b = TO ∨ b = i1 ∨ b = i2 := by simpa using hb
    rcases e' with q | q | q | q | q
    · rw [q]; exact ⟨_, hz, fun v q => nomatch q⟩
    · rw [q]; exact ⟨_, hTI, fun v q => nomatch q⟩
    · rw [q]; exact ⟨_, hTO, fun v q => nomatch q⟩
    · rw [q]; exact itr_obj h1
    · rw [q]; exact itr_obj h2
  keep := fun i h h' st k => by
    obtain ⟨hz, hTI, ⟨x, y, hTO⟩, h1, h2⟩ := st
    exact ⟨k z (by simp) _ hz, k TI (by simp) _ hTI, ⟨x, y, k TO (by simp) _ hTO⟩, itr_keep (fun o q => k i1 (by simp) o q) h1, itr_keep (fun o q => k i2 (by simp) o q) h2⟩
  item := by
    intro X hP hw hK hc i pins s σ H E I hf st hg
    subst hP hw hK
    obtain ⟨hz, hTI, hTO, h1, h2⟩ := st
    obtain ⟨xs, ys, hqx, hqy, hx, hy⟩ := hg
    obtain ⟨P1, S1, D1, a1, b1, v1⟩ := draws I (A := X.A.in1) (I.ok.hd hc) hqx n1
    obtain ⟨P2, S2, D2, a2, b2, v2⟩ := draws I (A := X.A.in1) (I.ok.hd hc) hqy n2
    have WT := WalksT.zipD2 (A := X.A) D D1 D2
    refine WT.item i s _ _ (by omega) ⟨hz, hTI, hTO, a1 i h1, a2 i h2⟩ fun T vals h' tk hP hT hTup mid keep => ⟨.ref T, rfl, ?_⟩
    have hap := WT.apart _ _ _ mid
    refine WT.go elts kk tpos i T { s with heap := h', toks := tk } _ _ mid fun h'' st'' keep'' => ?_
    obtain ⟨u1, u2, p1, p2, rfl⟩ := hP
    obtain ⟨x1, ex, rx⟩ := v1 i u1 p1
    obtain ⟨x2, ey, ry⟩ := v2 i u2 p2
    obtain ⟨z'', TI'', TO'', s1'', s2''⟩ := st''
    have sub : ∀ b, b ∉ [z, TI, TO, i1, i2] → b ∉ [z, TO, i1, i2] := fun b hb q => hb (by
      have : b = z ∨ b = TO ∨ b = i1 ∨ b = i2 := by simpa using q
      rcases this with q | q | q | q <;> simp [q])
    obtain ⟨oT, eT, cT, nT, dT⟩ := (show IsTup h' T #[u1, u2] from hTup)
    have new : ObjOk X.prog X.w (upd H T (.tup [x1, x2])) h'' T (.tup [x1, x2]) :=
      ⟨by show 2 ≤ sizeLine; decide, [u1, u2], .cons rx (.cons ry .nil), ⟨oT, keep'' T oT hap eT, cT, nT, dT⟩⟩
    have I1 : L2.Inv X pins σ (upd H T (.tup [x1, x2])) { s with heap := h'', toks := tk } :=
      I.turnedNew (t' := tk) (ch := [z, TI, TO, i1, i2]) (fun b o hb q => keep'' b o (sub b hb) (keep b o (sub b hb) q)) hf hT new
    refine ⟨.ref T, _, I1, rfl, ⟨T, x1, x2, rfl, I.hok.fresh hT, rfl, fun l hl => by rw [still_inj I hl hqx]; exact ex, fun l hl => by rw [still_inj I hl hqy]; exact ey⟩, ⟨z'', TI'', TO'', b1 _ _ s1'', b2 _ _ s2''⟩, fun b hb => ?_⟩
    have hlt : b < s.heap.objs.size := by
      have e' : b = z ∨ b = TI ∨ b = TO ∨ b = i1 ∨ b = i2 := by simpa using hb
      obtain ⟨_, _, hTO'⟩ := hTO
      rcases e' with q | q | q | q | q
      · rw [q]; exact Heap.lt_size hz
      · rw [q]; exact Heap.lt_size hTI
      · rw [q]; exact Heap.lt_size hTO'
      · rw [q]; obtain ⟨_, e1, _⟩ := itr_obj h1; exact Heap.lt_size e1
      · rw [q]; obtain ⟨_, e1, _⟩ := itr_obj h2; exact Heap.lt_size e1
    rw [upd_ne (Nat.ne_of_lt (Nat.lt_of_lt_of_le hlt hT))]
    exact (hf b hb).1
  done := by
    intro X hP hw hK hc i pins s σ H E I hf st hg
    subst hP hw hK
    obtain ⟨hz, hTI, hTO, h1, h2⟩ := st
    obtain ⟨xs, ys, hqx, hqy, hend⟩ := hg
    obtain ⟨P1, S1, D1, a1, b1, v1⟩ := draws I (A := X.A.in1) (I.ok.hd hc) hqx n1
    obtain ⟨P2, S2, D2, a2, b2, v2⟩ := draws I (A := X.A.in1) (I.ok.hd hc) hqy n2
    have WT := WalksT.zipD2 (A := X.A) D D1 D2
    have e : i = min xs.length ys.length := by omega
    subst e
    refine WT.done s _ _ ⟨hz, hTI, hTO, a1 _ h1, a2 _ h2⟩ fun h' tk keep => ⟨rfl, I.turnedL (t' := tk) (ch := [z, TI, TO, i1, i2]) (fun b o hb q => keep b o (fun q' => hb ?_) q) hf⟩
    have : b = z ∨ b = TO ∨ b = i1 ∨ b = i2 := by simpa using q'
    rcases this with q | q | q | q <;> simp [q]
  self := fun A i s Q E st h => wpAny_pyIter_zip st.1 h

/-! ### enumerate -/
theorem meets_enum1 {v : Value} {o : Obj} {H : Heap → Prop} (B : Begins v o H) :
    Meets (Builtin.«enumerate.__new__» ⟨[.type "enumerate", v], []⟩) (fun _ R s => H s.heap ∧
      R (.ok (.ret (.ref (s.heap.push o).objs.size))) { s with heap := (s.heap.push o).push { cls := .type "enumerate", data := .fields #[.none, .bool false, .ref s.heap.objs.size, rawInt 0, .none, .none] } }) :=
  .of_wp fun prog w A R s h => by
    obtain ⟨hp, g, d, tk, os⟩ := s; obtain ⟨h1, h⟩ := h
    have hsub := sub_enumerate
    have q1 : ∀ {A' : Around} {E : Value → Shared → Prop} {Q : Value → Shared → Prop}, Q (.ref hp.objs.size) ⟨hp.push o, g, d, tk, os⟩ → wpAny (model prog w) A' (pyIter v) Q E ⟨hp, g, d, tk, os⟩ :=
      fun q => B.iter prog w _ _ ⟨hp, g, d, tk, os⟩ _ h1 q
    wp_walk using q1
    refine wpAny_stack_any fun st => wpAny_pure ?_
    split
    · rename_i c _ _ _ _ _
      cases (c == Value.type "enumerate")
      · wp_walk using q1
        exact ⟨_, rfl, h⟩
      · wp_walk using q1
        exact ⟨_, rfl, h⟩
    · wp_walk using q1
      exact ⟨_, rfl, h⟩
theorem enum_begins1 {prog : Program} {w : World} {A : Around} {E : Value → Shared → Prop} {s : Shared} {v : Value} {o : Obj} {H : Heap → Prop} {Q : Value → Shared → Prop} (B : Begins v o H) (h1 : H s.heap)
    (h : ∀ h', IsEnum h' (s.heap.objs.size + 1) s.heap.objs.size 0 .none → h'.get? s.heap.objs.size = some o → h'.objs.size = s.heap.objs.size + 2 →
      (∀ b o, s.heap.get? b = some o → h'.get? b = some o) → Q (.ref (s.heap.objs.size + 1)) { s with heap := h' }) :
    wpAny (model prog w) A (call (.type "enumerate") [v]) Q E s := by
  refine callType_new F.called_enumerate (by decide) (F.typeCall_enumerate_1 _) (F.newCall_enumerate_1 _) (fun obj => F.args_object_init_2 obj _) F.entry_enumerate_new
    (meets_enum1 B) ⟨h1, ?_⟩
  have hz : (s.heap.push o).objs.size = s.heap.objs.size + 1 := Heap.size_push ..
  show _ ∧ _
  rw [hz]
  have he : IsEnum ((s.heap.push o).push { cls := .type "enumerate", data := .fields #[.none, .bool false, .ref s.heap.objs.size, rawInt 0, .none, .none] }) (s.heap.objs.size + 1) s.heap.objs.size 0 .none := by
    have := Heap.get?_push_size (s.heap.push o) (o := { cls := .type "enumerate", data := .fields #[.none, .bool false, .ref s.heap.objs.size, rawInt 0, .none, .none] }) rfl
    rw [hz] at this; exact this
  refine ⟨⟨_, he, rfl⟩, h _ he (Heap.get?_push_of_some _ (Heap.get?_push_size _ B.free)) (by rw [Heap.size_push, hz]) fun b o x => Heap.get?_push_of_some _ (Heap.get?_push_of_some _ x)⟩
def IteG (K : PySem.W.Frag) (c : CB) : It :=
  ⟨fun i H => ∃ xs, c.still K H xs ∧ i < xs.length,
   fun i H x H' => ∃ (T : Addr) (p : V), x = .ref T ∧ H T = none ∧ H' = upd H T (.tup [.int i, p]) ∧ ∀ xs, c.still K H xs → xs[i]? = some p,
   fun i H => ∃ xs, c.still K H xs ∧ i = xs.length⟩
theorem turn_enumG {P : Program} {w : World} {K : PySem.W.Frag} {elts : List Expr} {kk : Nat} {tpos : Pos} {c : CB} {e it : Addr} (hei : e ≠ it) (hef : e ∉ c.own) (n1 : ∀ a ∈ c.own, a ≠ it) :
    Turn P w K (.Tuple elts kk tpos) (IteG K c) [e, it] e (fun i h => (∃ old, IsEnum h e it i old) ∧ c.itr h it i) where
  mem := by simp
  obj := fun i h st b hb => by
    obtain ⟨⟨old, he⟩, h1⟩ := st
    have e' : b = e ∨ b = it := by simpa using hb
    rcases e' with q | q
    · rw [q]; exact ⟨_, he, fun v q => nomatch q⟩
    · rw [q]; exact itr_obj h1
  keep := fun i h h' st k => by
    obtain ⟨⟨old, he⟩, h1⟩ := st
    exact ⟨⟨old, k e (by simp) _ he⟩, itr_keep (fun o q => k it (by simp) o q) h1⟩
  item := by
    intro X hP hw hK hc i pins s σ H E I hf st hg
    subst hP hw hK
    obtain ⟨he, h1⟩ := st
    obtain ⟨xs, hqx, hx⟩ := hg
    obtain ⟨P1, S1, D1, a1, b1, v1⟩ := draws I (A := X.A.in1) (I.ok.hd hc) hqx n1
    have hef' : e ∉ it :: c.own := fun q => (List.mem_cons.mp q).elim (fun z => hei z) hef
    have WT := WalksT.enumerateD (A := X.A) D1 e hei hef' (List.mem_cons_self ..)
    refine WT.item i s _ _ hx ⟨he, a1 i h1⟩ fun T vals h' tk hP hT hTup mid keep => ⟨.ref T, rfl, ?_⟩
    have hap := WT.apart _ _ _ mid
    refine WT.go elts kk tpos i T { s with heap := h', toks := tk } _ _ mid fun h'' st'' keep'' => ?_
    obtain ⟨t1, u1, p1, rfl⟩ := hP
    obtain ⟨x1, ex, rx⟩ := v1 i u1 p1
    obtain ⟨z'', s1''⟩ := st''
    obtain ⟨oT, eT, cT, nT, dT⟩ := (show IsTup h' T #[.int i t1, u1] from hTup)
    have new : ObjOk X.prog X.w (upd H T (.tup [.int i, x1])) h'' T (.tup [.int i, x1]) :=
      ⟨by show 2 ≤ sizeLine; decide, [.int i t1, u1], .cons ⟨t1, rfl⟩ (.cons rx .nil), ⟨oT, keep'' T oT hap eT, cT, nT, dT⟩⟩
    have I1 : L2.Inv X pins σ (upd H T (.tup [.int i, x1])) { s with heap := h'', toks := tk } :=
      I.turnedNew (t' := tk) (ch := [e, it]) (fun b o hb q => keep'' b o hb (keep b o hb q)) hf hT new
    refine ⟨.ref T, _, I1, rfl, ⟨T, x1, rfl, I.hok.fresh hT, rfl, fun l hl => by rw [still_inj I hl hqx]; exact ex⟩, ⟨?_, b1 _ _ s1''⟩, fun b hb => ?_⟩
    · obtain ⟨old, q⟩ := z''
      exact ⟨old, q⟩
    · have hlt : b < s.heap.objs.size := by
        have e' : b = e ∨ b = it := by simpa using hb
        obtain ⟨_, he'⟩ := he
        rcases e' with q | q
        · rw [q]; exact Heap.lt_size he'
        · rw [q]; obtain ⟨_, e1, _⟩ := itr_obj h1; exact Heap.lt_size e1
      rw [upd_ne (Nat.ne_of_lt (Nat.lt_of_lt_of_le hlt hT))]
      exact (hf b hb).1
  done := by
    intro X hP hw hK hc i pins s σ H E I hf st hg
    subst hP hw hK
    obtain ⟨he, h1⟩ := st
    obtain ⟨xs, hqx, hend⟩ := hg
    obtain ⟨P1, S1, D1, a1, b1, v1⟩ := draws I (A := X.A.in1) (I.ok.hd hc) hqx n1
    have hef' : e ∉ it :: c.own := fun q => (List.mem_cons.mp q).elim (fun z => hei z) hef
    have WT := WalksT.enumerateD (A := X.A) D1 e hei hef' (List.mem_cons_self ..)
    subst hend
    exact WT.done s _ _ ⟨he, a1 _ h1⟩ fun h' tk keep => ⟨rfl, I.turnedL (t' := tk) (ch := [e, it]) (fun b o hb q => keep b o hb q) hf⟩
  self := fun A i s Q E st h => by
    obtain ⟨⟨old, he⟩, _⟩ := st
    exact wpAny_pyIter_enum he h

/-! ### what the sources yield -/
section
variable {W : Wd} {H0 : Hp} {ads0 : List Addr}
theorem src_bs {K : PySem.W.Frag} (hK : W.K = K) {r : Nat} {a : Addr} (h : ads0[r]? = some a) : SrcOk W H0 ads0 (.bs (.lst r)) (Itl K a) := by
  subst hK
  intro i H ads g e hg
  refine ⟨fun h1 => ?_, fun p h1 => ?_⟩
  · simp only [Src.item, Bs.items] at h1
    split at h1
    · rename_i l hl
      obtain ⟨a', vs, q, h2, h3⟩ := seqL_at (v := .ref a) hg hl (mk_ref (e.get h))
      cases q
      have : l[i]? = none := Option.some.inj h1
      exact ⟨vs, h2, by rw [h3.length]; exact List.getElem?_eq_none_iff.mp this⟩
    · cases h1
  · simp only [Src.item, Bs.items] at h1
    split at h1
    · rename_i l hl
      obtain ⟨a', vs, q, h2, h3⟩ := seqL_at (v := .ref a) hg hl (mk_ref (e.get h))
      cases q
      have h4 : l[i]? = some p := Option.some.inj h1
      obtain ⟨v, e1, e2⟩ := h3.get h4
      refine ⟨⟨vs, v, h2, e1⟩, fun x H' y => ?_⟩
      obtain ⟨rfl, y⟩ := y
      have := y vs h2
      rw [e1] at this
      cases this
      exact ⟨.refl, hg, e2⟩
    · cases h1
theorem src_tup {K : PySem.W.Frag} {l : List PV} {a : Addr} {vs : List V} (h : H0 a = some (.tup vs)) (r : RVs W H0 ads0 l vs) : SrcOk W H0 ads0 (.bs (.tup l)) (Itt K a) := by
  intro i H ads g e hg
  have h2 : SqT K H a vs := .of (e.tup _ _ h)
  have h3 := r.mono e
  refine ⟨fun h1 => ?_, fun p h1 => ?_⟩
  · have : l[i]? = none := Option.some.inj h1
    exact ⟨vs, h2, by rw [h3.length]; exact List.getElem?_eq_none_iff.mp this⟩
  · have h4 : l[i]? = some p := Option.some.inj h1
    obtain ⟨v, e1, e2⟩ := h3.get h4
    refine ⟨⟨vs, v, h2, e1⟩, fun x H' y => ?_⟩
    obtain ⟨rfl, y⟩ := y
    have := y vs h2
    rw [e1] at this
    cases this
    exact ⟨.refl, hg, e2⟩
theorem signs_at (x : Str) (i : Nat) : (signs x)[i]? = (x.cps[i]?).map fun c => PV.str ⟨#[c]⟩ := by
  unfold signs
  rw [List.getElem?_map, Array.getElem?_toList]
theorem src_str (x : Str) : SrcOk W H0 ads0 (.bs (.str x)) (Its x) := by
  intro i H ads g e hg
  refine ⟨fun h1 => ?_, fun p h1 => ?_⟩
  · have h2 : (signs x)[i]? = none := Option.some.inj h1
    rw [signs_at, Option.map_eq_none_iff] at h2
    exact Array.getElem?_eq_none_iff.mp h2
  · have h2 : (signs x)[i]? = some p := Option.some.inj h1
    rw [signs_at] at h2
    obtain ⟨c, e1, rfl⟩ := Option.map_eq_some_iff.mp h2
    refine ⟨(Array.getElem?_eq_some_iff.mp e1).1, fun y H' q => ?_⟩
    obtain ⟨rfl, c', e2, rfl⟩ := q
    rw [e1] at e2
    cases e2
    exact ⟨.refl, hg, mk_str _⟩
theorem src_rng (lo c : Int) (n : Nat) : SrcOk W H0 ads0 (.rng lo c n) (Itc lo c n) := by
  intro i H ads g e hg
  refine ⟨fun h1 => ?_, fun p h1 => ?_⟩
  · simp only [Src.item] at h1
    split at h1
    · cases h1
    · exact Nat.le_of_not_lt (by assumption)
  · simp only [Src.item] at h1
    split at h1
    · cases h1
      refine ⟨by assumption, fun y H' q => ?_⟩
      obtain ⟨rfl, rfl⟩ := q
      exact ⟨.refl, hg, mk_int _⟩
    · cases h1
theorem src_rng1 (lo : Int) (n : Nat) : SrcOk W H0 ads0 (.rng lo 1 n) (Itr lo n) := by
  intro i H ads g e hg
  refine ⟨fun h1 => ?_, fun p h1 => ?_⟩
  · simp only [Src.item] at h1
    split at h1
    · cases h1
    · exact Nat.le_of_not_lt (by assumption)
  · simp only [Src.item] at h1
    split at h1
    · cases h1
      refine ⟨by assumption, fun y H' q => ?_⟩
      obtain ⟨rfl, rfl⟩ := q
      refine ⟨.refl, hg, ?_⟩
      rw [Int.mul_one]
      exact mk_int _
    · cases h1
theorem src_zip {K : PySem.W.Frag} (hK : W.K = K) {b d : Bs} {c c2 : CB} (h1 : BsOk W H0 ads0 b c) (h2 : BsOk W H0 ads0 d c2) : SrcOk W H0 ads0 (.zip b d) (ItzG K c c2) := by
  intro i H ads g e hg
  refine ⟨fun h => ?_, fun p h => ?_⟩
  · simp only [Src.item] at h
    split at h
    · rename_i l m hl hm
      obtain ⟨xs, s1, r1⟩ := bs_still hK hg (h1.mono e) hl
      obtain ⟨ys, s2, r2⟩ := bs_still hK hg (h2.mono e) hm
      split at h
      · cases h
      · split at h
        · rename_i hi
          refine ⟨xs, ys, s1, s2, ?_⟩
          rw [r1.length, r2.length]
          omega
        · cases h
    · cases h
  · simp only [Src.item] at h
    split at h
    · rename_i l m hl hm
      obtain ⟨xs, s1, r1⟩ := bs_still hK hg (h1.mono e) hl
      obtain ⟨ys, s2, r2⟩ := bs_still hK hg (h2.mono e) hm
      split at h
      · rename_i x y hx hy
        cases h
        obtain ⟨u, e1, q1⟩ := r1.get hx
        obtain ⟨w, e2, q2⟩ := r2.get hy
        refine ⟨⟨xs, ys, s1, s2, (List.getElem?_eq_some_iff.mp e1).1, (List.getElem?_eq_some_iff.mp e2).1⟩, fun z H' q => ?_⟩
        obtain ⟨T, p', q', rfl, hT, rfl, f1, f2⟩ := q
        have := f1 xs s1
        rw [e1] at this
        cases this
        have := f2 ys s2
        rw [e2] at this
        cases this
        obtain ⟨g1, ex⟩ := hg.tup (o := .tup [u, w]) hT
        exact ⟨ex, g1, mk_tup upd_same (.cons (q1.mono ex) (.cons (q2.mono ex) .nil))⟩
      · split at h <;> cases h
    · cases h
theorem src_enum {K : PySem.W.Frag} (hK : W.K = K) {b : Bs} {c : CB} (h1 : BsOk W H0 ads0 b c) : SrcOk W H0 ads0 (.enum b) (IteG K c) := by
  intro i H ads g e hg
  refine ⟨fun h => ?_, fun p h => ?_⟩
  · simp only [Src.item] at h
    split at h
    · rename_i l hl
      obtain ⟨xs, s1, r1⟩ := bs_still hK hg (h1.mono e) hl
      split at h
      · cases h
      · split at h
        · rename_i hi
          exact ⟨xs, s1, by rw [r1.length]; exact hi⟩
        · cases h
    · cases h
  · simp only [Src.item] at h
    split at h
    · rename_i l hl
      obtain ⟨xs, s1, r1⟩ := bs_still hK hg (h1.mono e) hl
      split at h
      · rename_i x hx
        cases h
        obtain ⟨u, e1, q1⟩ := r1.get hx
        refine ⟨⟨xs, s1, (List.getElem?_eq_some_iff.mp e1).1⟩, fun z H' q => ?_⟩
        obtain ⟨T, p', rfl, hT, rfl, f1⟩ := q
        have := f1 xs s1
        rw [e1] at this
        cases this
        obtain ⟨g1, ex⟩ := hg.tup (o := .tup [.int i, u]) hT
        exact ⟨ex, g1, mk_tup upd_same (.cons (mk_int _) (.cons (q1.mono ex) .nil))⟩
      · split at h <;> cases h
    · cases h
theorem src_revL {K : PySem.W.Frag} (hK : W.K = K) {r n : Nat} {a : Addr} (h : ads0[r]? = some a) : SrcOk W H0 ads0 (.rev (.lst r) n) (Itv K a n) := by
  subst hK
  intro i H ads g e hg
  refine ⟨fun h1 => ?_, fun p h1 => ?_⟩
  · simp only [Src.item, Bs.items] at h1
    split at h1
    · split at h1
      · split at h1 <;> cases h1
      · cases h1
    · exact Nat.le_of_not_lt (by assumption)
  · simp only [Src.item, Bs.items] at h1
    split at h1
    · rename_i hlt
      split at h1
      · rename_i l hl
        obtain ⟨a', vs, q, h2, h3⟩ := seqL_at (v := .ref a) hg hl (mk_ref (e.get h))
        cases q
        split at h1
        · rename_i x hx
          cases h1
          obtain ⟨v, e1, e2⟩ := h3.get hx
          refine ⟨⟨hlt, vs, v, h2, e1⟩, fun x H' y => ?_⟩
          obtain ⟨rfl, y⟩ := y
          have := y vs h2
          rw [e1] at this
          cases this
          exact ⟨.refl, hg, e2⟩
        · cases h1
      · cases h1
    · cases h1
theorem src_revT {K : PySem.W.Frag} {l : List PV} {n : Nat} {a : Addr} {vs : List V} (h : H0 a = some (.tup vs)) (r : RVs W H0 ads0 l vs) : SrcOk W H0 ads0 (.rev (.tup l) n) (RT.ItvT K a n) := by
  intro i H ads g e hg
  have h2 : SqT K H a vs := .of (e.tup _ _ h)
  have h3 := r.mono e
  refine ⟨fun h1 => ?_, fun p h1 => ?_⟩
  · simp only [Src.item, Bs.items] at h1
    split at h1
    · split at h1 <;> cases h1
    · exact Nat.le_of_not_lt (by assumption)
  · simp only [Src.item, Bs.items] at h1
    split at h1
    · rename_i hlt
      split at h1
      · rename_i x hx
        cases h1
        obtain ⟨v, e1, e2⟩ := h3.get hx
        refine ⟨⟨hlt, vs, v, h2, e1⟩, fun x H' y => ?_⟩
        obtain ⟨rfl, y⟩ := y
        have := y vs h2
        rw [e1] at this
        cases this
        exact ⟨.refl, hg, e2⟩
      · cases h1
    · cases h1
end

/-! ### the walked things of the syntax -/
section
variable {X : Cx} {W : Wd} {a b : Expr} {fa fb : ME PV} {pos p : Pos} {tg : Expr}
theorem isTup_of {X : Cx} {pins : List (Addr × Obj)} {σ : L2.St} {H : Hp} {s : Shared} (I : L2.Inv X pins σ H s) {l : Addr} {xs : List V} (h : SqL X.K H l xs) : ∃ its : Array Value, s.heap.IsList l its := by
  obtain ⟨its, rv, p, hz⟩ := I.list h
  exact ⟨_, p.isList⟩
theorem one_new {pins : List (Addr × Obj)} {σ : L2.St} {H : Hp} {s : Shared} (I : L2.Inv X pins σ H s) : ∀ b ∈ [s.heap.objs.size], FpOk X pins H b := fun b hb => by
  have e : b = s.heap.objs.size := by simpa using hb
  subst e
  exact I.fpOk (Nat.le_refl _) (I.hok.fresh (Nat.le_refl _))
theorem vi_bs (hK : W.K = X.K) (ha : PE X a (tE W fa)) : PI X tg a (tI W (iBs fa)) := by
  refine ⟨fun pins s σ H R I ⟨σp, g, ads, src, g', hsl, hg, hf, k⟩ => ?_⟩
  obtain ⟨x, g1, h1, hf⟩ := bind_some hf
  refine thn (ha.run pins s σ H (fun x' H1 => ∃ ads1, Ext W H ads H1 ads1 ∧ RG W H1 ads1 g1 ∧ RV W H1 ads1 x x') I ⟨σp, g, ads, x, g1, hsl, hg, h1, fun x' H1 ads1 e1 r1 rx => ⟨ads1, e1, r1, rx⟩⟩) fun v s1 ⟨x', H1, I1, rr, ads1, e1, r1, rx⟩ => ?_
  try dsimp only at hf
  split at hf
  · rename_i bb eb
    cases hf
    cases x with
    | tup l =>
      cases eb
      obtain ⟨t, vs, rfl, h2, h3⟩ := rv_tup rx
      cases rr
      obtain ⟨its, rv, p, hz⟩ := I1.tuple (SqT.of h2)
      refine wpAny_pyIter_tuple (show s1.heap.IsTuple t its.toArray from p) ?_
      exact ⟨s1.heap.objs.size, [s1.heap.objs.size], _, _, H1, rfl, I1.kept (t' := s1.toks) fun b o e => Heap.get?_push_of_some _ e, turn_tuple t _, ⟨_, Heap.get?_push_size _ rfl, rfl, rfl⟩, one_new I1, k _ _ _ e1 r1 (src_tup h2 h3)⟩
    | str z =>
      cases eb
      obtain rfl := rv_str rx
      obtain ⟨t, rfl⟩ := rr
      cases hz : z.cps.all (· < 128)
      · exact wpAny_pyIter_wide hz (pi_one (tk := s1.toks) I1 _ (turn_str _ z t "str_iterator" (.inr rfl)) ⟨_, Heap.get?_push_size _ rfl, rfl, rfl⟩ (k _ _ _ e1 r1 (src_str z)))
      · exact wpAny_pyIter_ascii hz (pi_one (tk := s1.toks) I1 _ (turn_str _ z t "str_ascii_iterator" (.inl rfl)) ⟨_, Heap.get?_push_size _ rfl, rfl, rfl⟩ (k _ _ _ e1 r1 (src_str z)))
    | ref r =>
      simp only [bsOf] at eb
      split at eb
      · rename_i l hl
        cases eb
        obtain ⟨t, vs, rfl, h2, h3⟩ := seqL_at r1 hl rx
        obtain ⟨t', q, ht⟩ := rv_ref rx
        cases q
        rw [hK] at h2
        obtain rfl : v = Value.ref t := rr
        obtain ⟨its, rv, p, hz⟩ := I1.list h2
        refine wpAny_pyIter_list p.isList ?_
        exact ⟨s1.heap.objs.size, [s1.heap.objs.size], _, _, H1, rfl, I1.kept (t' := s1.toks) fun b o e => Heap.get?_push_of_some _ e, turn_list t _, ⟨_, Heap.get?_push_size _ rfl, rfl, rfl⟩, one_new I1, k _ _ _ e1 r1 (src_bs hK ht)⟩
      · cases eb
    | _ => cases eb
  · cases hf
/-- the concrete source of a pure one -/
theorem cb_of (hK : W.K = X.K) {pins : List (Addr × Obj)} {σ : L2.St} {H : Hp} {s : Shared} {ads : List Addr} {g : G} {x : PV} {x' : V} {u : Value} {bb : Bs} (I : L2.Inv X pins σ H s) (hg : RG W H ads g) (h : bsOf x g = some bb) (rx : RV W H ads x x') (ru : RelV x' u) :
    ∃ (c : CB) (xs : List V), u = c.val ∧ BsOk W H ads bb c ∧ c.still X.K H xs := by
  cases x with
  | tup l =>
    cases h
    obtain ⟨t, vs, rfl, h2, h3⟩ := rv_tup rx
    cases ru
    exact ⟨.tup t, vs, rfl, ⟨vs, h2, h3⟩, .of h2⟩
  | str z =>
    cases h
    obtain rfl := rv_str rx
    obtain ⟨t, rfl⟩ := ru
    exact ⟨.str z t, signsV z, rfl, rfl, rfl⟩
  | ref r =>
    simp only [bsOf] at h
    split at h
    · rename_i l hl
      cases h
      obtain ⟨t, vs, rfl, h2, h3⟩ := seqL_at hg hl rx
      obtain ⟨t', q, ht⟩ := rv_ref rx
      cases q
      rw [hK] at h2
      cases ru
      exact ⟨.lst t, vs, rfl, ht, h2⟩
    · cases h
  | _ => cases h
theorem vi_zip {elts : List Expr} {kk : Nat} {tpos : Pos} (hK : W.K = X.K) (hg : Gl X "zip") (hm : X.mg "zip" = none) (hs : noStars [a, b] = true) (ha : PE X a (tE W fa)) (hb : PE X b (tE W fb)) :
    PI X (.Tuple elts kk tpos) (.Call (.Name "zip" p) [a, b] [] pos) (tI W (iZip fa fb)) := by
  simp only [noStars, Bool.and_eq_true] at hs
  have hA : PA X [a, b] (tCons (tE W fa) (tCons (tE W fb) tNil)) := pa_cons ha (pa_cons hb pa_nil (star_one hs.2.1)) (star_one hs.1)
  refine ⟨fun pins s σ H R I ⟨σp, g, ads, src, g', hsl, hgg, hf, k⟩ => ?_⟩
  obtain ⟨x, g1, h1, hf⟩ := bind_some hf
  obtain ⟨y, g2, h2, hf⟩ := bind_some hf
  have hr : tCons (tE W fa) (tCons (tE W fb) tNil) σ H fun vs H2 => ∃ ads2 x' y', vs = [x', y'] ∧ Ext W H ads H2 ads2 ∧ RG W H2 ads2 g2 ∧ RV W H2 ads2 x x' ∧ RV W H2 ads2 y y' :=
    ⟨σp, g, ads, x, g1, hsl, hgg, h1, fun x' H1 ads1 e1 r1 rx => ⟨σp, g1, ads1, y, g2, hsl.mono e1, r1, h2, fun y' H2 ads2 e2 r2 ry => ⟨ads2, x', y', rfl, e1.trans e2, r2, rx.mono e2, ry⟩⟩⟩
  refine Call_ (ld_blt I hg hm PyProof.Rows.boot_zip (PyProof.Rows.callWith_type1 (thn (hA.run pos pins s σ H _ I hr) fun us s1 ⟨vs, H2, I2, rr, ads2, x', y', ev, e2, r2, rx, ry⟩ => ?_) (star_one hs.1) (star_none (es := [b]) (by simp [noStars, hs.2.1]))))
  subst ev
  try dsimp only at hf
  split at hf
  · rename_i p1 p2 b1 b2
    cases hf
    cases rr with
    | cons q1 rr =>
      cases rr with
      | cons q2 rr =>
        cases rr
        obtain ⟨c1, xs, rfl, k1, s1'⟩ := cb_of hK I2 r2 b1 rx q1
        obtain ⟨c2, ys, rfl, k2, s2'⟩ := cb_of hK I2 r2 b2 ry q2
        obtain ⟨Hb1, B1, hb1⟩ := begins_of I2 s1'
        obtain ⟨Hb2, B2, hb2⟩ := begins_of I2 s2'
        refine zip_begins2 B1 B2 hb1 hb2 fun h' hz hTI hTO o1 o2 hsz hk => wpAny_pyIter_zip hz ?_
        have I3 : L2.Inv X pins σ H2 { s1 with heap := h' } := I2.kept (t' := s1.toks) hk
        have sep := zip_sep2 (N := s1.heap.objs.size) (own_lt I2 s1') (own_lt I2 s2')
        have n1 : ∀ a ∈ c1.own, a ≠ s1.heap.objs.size := fun a ha => Nat.ne_of_lt (own_lt I2 s1' a ha)
        have n2 : ∀ a ∈ c2.own, a ≠ s1.heap.objs.size + 1 := fun a ha => Nat.ne_of_lt (Nat.lt_succ_of_lt (own_lt I2 s2' a ha))
        have i1 : c1.itr h' s1.heap.objs.size 0 := by cases c1 <;> exact ⟨_, o1, rfl, rfl⟩
        have i2 : c2.itr h' (s1.heap.objs.size + 1) 0 := by cases c2 <;> exact ⟨_, o2, rfl, rfl⟩
        refine ⟨s1.heap.objs.size + 4, [s1.heap.objs.size + 4, s1.heap.objs.size + 2, s1.heap.objs.size + 3, s1.heap.objs.size, s1.heap.objs.size + 1], _, _, H2, rfl, I3, turn_zipG sep n1 n2, ⟨hz, hTI, ⟨_, _, hTO⟩, i1, i2⟩, fun c hcm => ?_, k _ _ _ e2 r2 (src_zip hK k1 k2)⟩
        have e' : c = s1.heap.objs.size + 4 ∨ c = s1.heap.objs.size + 2 ∨ c = s1.heap.objs.size + 3 ∨ c = s1.heap.objs.size ∨ c = s1.heap.objs.size + 1 := by simpa using hcm
        have hle : s1.heap.objs.size ≤ c := by
          rcases e' with z | z | z | z | z
          · rw [z]; exact Nat.le_add_right _ _
          · rw [z]; exact Nat.le_add_right _ _
          · rw [z]; exact Nat.le_add_right _ _
          · rw [z]; exact Nat.le_refl _
          · rw [z]; exact Nat.le_add_right _ _
        exact I2.fpOk hle (I2.hok.fresh hle)
  · cases hf
theorem vi_enum {elts : List Expr} {kk : Nat} {tpos : Pos} (hK : W.K = X.K) (hg : Gl X "enumerate") (hm : X.mg "enumerate" = none) (hs : noStar a = true) (ha : PE X a (tE W fa)) :
    PI X (.Tuple elts kk tpos) (.Call (.Name "enumerate" p) [a] [] pos) (tI W (iEnum fa)) := by
  have hA : PA X [a] (tCons (tE W fa) tNil) := pa_cons ha pa_nil (star_one hs)
  refine ⟨fun pins s σ H R I ⟨σp, g, ads, src, g', hsl, hgg, hf, k⟩ => ?_⟩
  obtain ⟨x, g1, h1, hf⟩ := bind_some hf
  have hr : tCons (tE W fa) tNil σ H fun vs H2 => ∃ ads2 x', vs = [x'] ∧ Ext W H ads H2 ads2 ∧ RG W H2 ads2 g1 ∧ RV W H2 ads2 x x' :=
    ⟨σp, g, ads, x, g1, hsl, hgg, h1, fun x' H1 ads1 e1 r1 rx => ⟨ads1, x', rfl, e1, r1, rx⟩⟩
  refine Call_ (ld_blt I hg hm boot_enumerate (PyProof.Rows.callWith_type1 (thn (hA.run pos pins s σ H _ I hr) fun us s1 ⟨vs, H2, I2, rr, ads2, x', ev, e2, r2, rx⟩ => ?_) (star_one hs) rfl))
  subst ev
  try dsimp only at hf
  split at hf
  · rename_i p1 b1
    cases hf
    cases rr with
    | cons q1 rr =>
      cases rr
      obtain ⟨c1, xs, rfl, k1, s1'⟩ := cb_of hK I2 r2 b1 rx q1
      obtain ⟨Hb1, B1, hb1⟩ := begins_of I2 s1'
      refine enum_begins1 B1 hb1 fun h' he o1 hsz hk => wpAny_pyIter_enum he ?_
      have I3 : L2.Inv X pins σ H2 { s1 with heap := h' } := I2.kept (t' := s1.toks) hk
      have n1 : ∀ a ∈ c1.own, a ≠ s1.heap.objs.size := fun a ha => Nat.ne_of_lt (own_lt I2 s1' a ha)
      have n2 : s1.heap.objs.size + 1 ∉ c1.own := fun ha => absurd (own_lt I2 s1' _ ha) (Nat.not_lt_of_le (Nat.le_succ _))
      have i1 : c1.itr h' s1.heap.objs.size 0 := by cases c1 <;> exact ⟨_, o1, rfl, rfl⟩
      refine ⟨s1.heap.objs.size + 1, [s1.heap.objs.size + 1, s1.heap.objs.size], _, _, H2, rfl, I3, turn_enumG (Nat.succ_ne_self _) n2 n1, ⟨⟨_, he⟩, i1⟩, fun c hcm => ?_, k _ _ _ e2 r2 (src_enum hK k1)⟩
      have e' : c = s1.heap.objs.size + 1 ∨ c = s1.heap.objs.size := by simpa using hcm
      have hle : s1.heap.objs.size ≤ c := by
        rcases e' with z | z
        · rw [z]; exact Nat.le_add_right _ _
        · rw [z]; exact Nat.le_refl _
      exact I2.fpOk hle (I2.hok.fresh hle)
  · cases hf
theorem vi_rev (hK : W.K = X.K) (hg : Gl X "reversed") (hm : X.mg "reversed" = none) (hs : noStar a = true) (ha : PE X a (tE W fa)) : PI X tg (.Call (.Name "reversed" p) [a] [] pos) (tI W (iRev fa)) := by
  refine PI.imp (RT.pi_revA hg hm ha (star_one hs)) fun σ H R ⟨σp, g, ads, src, g', hsl, hgg, hf, k⟩ => ?_
  obtain ⟨x, g1, h1, hf⟩ := bind_some hf
  refine ⟨σp, g, ads, x, g1, hsl, hgg, h1, fun x' H1 ads1 e1 r1 rx => ?_⟩
  try dsimp only at hf
  cases x with
  | ref r =>
    simp only [bsOf] at hf
    cases hl : seqOf (.ref r) g1 with
    | none => rw [hl] at hf; cases hf
    | some l =>
      rw [hl] at hf
      dsimp only at hf
      rw [hl] at hf
      cases hf
      obtain ⟨t, vs, rfl, h2, h3⟩ := seqL_at r1 hl rx
      obtain ⟨t', q, ht⟩ := rv_ref rx
      cases q
      rw [hK] at h2
      exact ⟨t, vs, rfl, .inl ⟨h2, by rw [h3.length]; exact k _ _ _ e1 r1 (src_revL hK ht)⟩⟩
  | tup l =>
    cases hf
    obtain ⟨t, vs, rfl, h2, h3⟩ := rv_tup rx
    exact ⟨t, vs, rfl, .inr ⟨.of h2, by rw [h3.length]; exact k _ _ _ e1 r1 (src_revT h2 h3)⟩⟩
  | _ => cases hf
theorem in62_iff {i : Int} (h : in62 i = true) : -(2 ^ 62) ≤ i ∧ i < 2 ^ 62 := by
  unfold in62 at h
  rw [Bool.and_eq_true, decide_eq_true_eq, decide_eq_true_eq] at h
  exact h
theorem vi_rng1 (hg : Gl X "range") (hm : X.mg "range" = none) (hs : noStar a = true) (ha : PE X a (tE W fa)) : PI X tg (.Call (.Name "range" p) [a] [] pos) (tI W (iRng1 fa)) := by
  have hA : PA X [a] (tCons (tE W fa) tNil) := pa_cons ha pa_nil (star_one hs)
  refine PI.imp (pi_range1 hg hm hA (star_one hs)) fun σ H R ⟨σp, g, ads, src, g', hsl, hgg, hf, k⟩ => ?_
  obtain ⟨x, g1, h1, hf⟩ := bind_some hf
  refine ⟨σp, g, ads, x, g1, hsl, hgg, h1, fun x' H1 ads1 e1 r1 rx => ?_⟩
  cases x with
  | int j =>
    try dsimp only at hf
    split at hf
    · rename_i hj
      cases hf
      have := in62_iff hj
      exact ⟨j, by rw [rv_int rx], this.1, this.2, k _ _ _ e1 r1 (src_rng1 _ _)⟩
    · cases hf
  | _ => cases hf
theorem vi_rng2 (hg : Gl X "range") (hm : X.mg "range" = none) (hs : noStars [a, b] = true) (ha : PE X a (tE W fa)) (hb : PE X b (tE W fb)) : PI X tg (.Call (.Name "range" p) [a, b] [] pos) (tI W (iRng2 fa fb)) := by
  simp only [noStars, Bool.and_eq_true] at hs
  have hA : PA X [a, b] (tCons (tE W fa) (tCons (tE W fb) tNil)) := pa_cons ha (pa_cons hb pa_nil (star_one hs.2.1)) (star_one hs.1)
  refine PI.imp (pi_range2 hg hm hA (by rw [star_one hs.1, star_one hs.2.1]; rfl) (star_one hs.2.1)) fun σ H R ⟨σp, g, ads, src, g', hsl, hgg, hf, k⟩ => ?_
  obtain ⟨x, g1, h1, hf⟩ := bind_some hf
  obtain ⟨y, g2, h2, hf⟩ := bind_some hf
  refine ⟨σp, g, ads, x, g1, hsl, hgg, h1, fun x' H1 ads1 e1 r1 rx => ⟨σp, g1, ads1, y, g2, hsl.mono e1, r1, h2, fun y' H2 ads2 e2 r2 ry => ?_⟩⟩
  try dsimp only at hf
  split at hf
  · split at hf
    · rename_i hj
      cases hf
      rw [Bool.and_eq_true] at hj
      have q1 := in62_iff hj.1
      have q2 := in62_iff hj.2
      exact ⟨_, _, by rw [rv_int rx, rv_int ry], ⟨q1.1, q1.2, q2.1, q2.2⟩, k _ _ _ (e1.trans e2) r2 (src_rng1 _ _)⟩
    · cases hf
  · cases hf
theorem vi_rngD {c : Expr} (hg : Gl X "range") (hm : X.mg "range" = none) (hs : noStars [a, b, c] = true) (ha : PE X a (tE W fa)) (hb : PE X b (tE W fb)) (hc : PE X c (tE W (eC (.int (-1))))) :
    PI X tg (.Call (.Name "range" p) [a, b, c] [] pos) (tI W (iRngD fa fb)) := by
  simp only [noStars, Bool.and_eq_true] at hs
  have hA : PA X [a, b, c] (tCons (tE W fa) (tCons (tE W fb) (tCons (tE W (eC (.int (-1)))) tNil))) := pa_cons ha (pa_cons hb (pa_cons hc pa_nil (star_one hs.2.2.1)) (star_one hs.2.1)) (star_one hs.1)
  refine PI.imp (pi_range3 hg hm hA (star_one hs.1) (star_none (es := [b, c]) (by simp [noStars, hs.2.1, hs.2.2.1]))) fun σ H R ⟨σp, g, ads, src, g', hsl, hgg, hf, k⟩ => ?_
  obtain ⟨x, g1, h1, hf⟩ := bind_some hf
  obtain ⟨y, g2, h2, hf⟩ := bind_some hf
  refine ⟨σp, g, ads, x, g1, hsl, hgg, h1, fun x' H1 ads1 e1 r1 rx => ⟨σp, g1, ads1, y, g2, hsl.mono e1, r1, h2, fun y' H2 ads2 e2 r2 ry => ⟨σp, g2, ads2, _, g2, (hsl.mono e1).mono e2, r2, rfl, fun z' H3 ads3 e3 r3 rz => ?_⟩⟩⟩
  try dsimp only at hf
  split at hf
  · split at hf
    · rename_i hj
      cases hf
      rw [Bool.and_eq_true] at hj
      have q1 := in62_iff hj.1
      have q2 := in62_iff hj.2
      exact ⟨_, _, -1, _, by rw [rv_int rx, rv_int ry, rv_int rz], RgC.neg q1.1 q1.2 q2.1 q2.2, k _ _ _ ((e1.trans e2).trans e3) r3 (src_rng _ _ _)⟩
    · cases hf
  · cases hf
end
end Vm
end

section
set_option maxRecDepth 100000
set_option maxHeartbeats 4000000
/-! VmH: targets, comprehensions, statements. -/
namespace Vm
open PySem L2 PySem.Spec PyProof.Rows

/-! ### targets -/
def tG (W : Wd) (f : MG) : TG := fun v σ H Q => ∃ p σp g ads σ2 g2, RSl W H ads σp σ ∧ RG W H ads g ∧ RV W H ads p v ∧ f p σp g = some (σ2, g2) ∧ ∀ σ' H' ads', Ext W H ads H' ads' → RG W H' ads' g2 → RSl W H' ads' σ2 σ' → Q σ' H'
abbrev MGs := List PV → Sl → G → Option (Sl × G)
def tGs (W : Wd) (f : MGs) : TGs := fun vs σ H Q => ∃ ps σp g ads σ2 g2, RSl W H ads σp σ ∧ RG W H ads g ∧ RVs W H ads ps vs ∧ f ps σp g = some (σ2, g2) ∧ ∀ σ' H' ads', Ext W H ads H' ads' → RG W H' ads' g2 → RSl W H' ads' σ2 σ' → Q σ' H'
theorem PG.imp {X : Cx} {e : Expr} {t t' : TG} (h : PG X e t) (k : ∀ v σ H Q, t' v σ H Q → t v σ H Q) : PG X e t' := ⟨fun pins s σ H v u Q I r q => h.run pins s σ H v u Q I r (k _ _ _ _ q)⟩
theorem PGs.imp {X : Cx} {e : List Expr} {t t' : TGs} (h : PGs X e t) (k : ∀ v σ H Q, t' v σ H Q → t v σ H Q) : PGs X e t' := ⟨fun pins s σ H v u Q I r q => h.run pins s σ H v u Q I r (k _ _ _ _ q)⟩
section
variable {W : Wd} {H : Hp} {ads : List Addr}
theorem RSl.set {σp : Sl} {σ : L2.St} (h : RSl W H ads σp σ) {p : PV} {v : V} (r : RV W H ads p v) (i : Nat) : RSl W H ads (σp.set i (some p)) (σ.set i (some v)) := by
  refine ⟨by rw [List.length_set, List.length_set]; exact h.len, fun j q e => ?_⟩
  by_cases hj : i = j
  · subst hj
    have hl : i < σp.length := by
      have := (List.getElem?_eq_some_iff.mp e).1
      rwa [List.length_set] at this
    rw [List.getElem?_set_self hl] at e
    cases e
    exact ⟨v, List.getElem?_set_self (by rw [h.len]; exact hl), r⟩
  · rw [List.getElem?_set_ne hj] at e ⊢
    exact h.at_ j q e
theorem RSl.wipe {σp : Sl} {σ : L2.St} (h : RSl W H ads σp σ) : ∀ vs : List Nat, RSl W H ads (wipeP σp vs) (L2.wipe σ vs)
  | [] => h
  | v :: vs => by
    have ih := RSl.wipe h vs
    unfold wipeP L2.wipe
    refine ⟨by rw [List.length_set, List.length_set]; exact ih.len, fun j q e => ?_⟩
    by_cases hj : v = j
    · subst hj
      have hl : v < (wipeP σp vs).length := by
        have := (List.getElem?_eq_some_iff.mp e).1
        rwa [List.length_set] at this
      rw [List.getElem?_set_self hl] at e
      cases e
    · rw [List.getElem?_set_ne hj] at e ⊢
      exact ih.at_ j q e
end
section
variable {X : Cx} {W : Wd} {a b c e iter tg : Expr} {fa fb fc : ME PV} {pos : Pos} {es : List Expr}
theorem vg_name {i : Nat} {x : Str} (hN : X.N.Nodup) (hi : X.N[i]? = some x) (hx : Loc X.env.scope x) (hf : X.fn x = true ∨ X.env.scope.names.lookup x = some .local) : PG X (.Name x pos) (tG W (gName i)) := by
  refine PG.imp (pg_name hN hi hx hf) fun v σ H Q ⟨p, σp, g, ads, σ2, g2, hsl, hg, hv, hf, k⟩ => ?_
  cases hf
  exact k _ _ _ .refl hg (hsl.set hv i)
theorem vgs_nil : PGs X [] (tGs W gNil) := by
  refine PGs.imp pgs_nil fun vs σ H Q ⟨ps, σp, g, ads, σ2, g2, hsl, hg, hv, hf, k⟩ => ?_
  unfold Vm.gNil at hf
  split at hf
  · cases hf
    exact ⟨hv.nil_eq, k _ _ _ .refl hg hsl⟩
  · cases hf
theorem asg_one {env : Env} (h : noStar a = true) : assignEach (a :: es) env = (false, assign a env) :: assignEach es env := by
  cases a <;> first | rfl | cases h
theorem vgs_cons {t : MG} {u : MGs} (hn : noStar a = true) (h1 : PG X a (tG W t)) (h2 : PGs X es (tGs W u)) : PGs X (a :: es) (tGs W (gCons t u)) := by
  refine PGs.imp (pgs_cons h1 h2 (by rw [asg_one hn]; rfl)) fun vs σ H Q ⟨ps, σp, g, ads, σ2, g2, hsl, hg, hv, hf, k⟩ => ?_
  unfold Vm.gCons at hf
  split at hf
  · split at hf
    · rename_i σ1 g1 e1
      obtain ⟨v, r, rfl, r1, r2⟩ := hv.uncons
      refine ⟨v, r, rfl, _, σp, _, ads, σ1, g1, hsl, hg, r1, e1, fun σ' H' ads' ex rg rs => ?_⟩
      exact ⟨_, σ1, g1, ads', σ2, g2, rs, rg, r2.mono ex, hf, fun σ'' H'' ads'' ex2 => k _ _ _ (ex.trans ex2)⟩
    · cases hf
  · cases hf
theorem asg_len {env : Env} : ∀ {es : List Expr}, noStars es = true → (assignEach es env).length = es.length ∧ (assignEach es env).findIdx? (·.1) = none
  | [], _ => ⟨rfl, rfl⟩
  | a :: r, h => by
    unfold noStars at h
    rw [Bool.and_eq_true] at h
    obtain ⟨i1, i2⟩ := asg_len (env := env) h.2
    rw [asg_one h.1]
    refine ⟨by rw [List.length_cons, i1, List.length_cons], ?_⟩
    rw [List.findIdx?_cons]
    simp [i2]
theorem gs_len {u : MGs} (h : ∀ ps σ g r, u ps σ g = some r → ps.length = es.length) {t : MG} : ∀ ps σ g r, Vm.gCons t u ps σ g = some r → ps.length = (a :: es).length := by
  intro ps σ g r hf
  unfold Vm.gCons at hf
  split at hf
  · split at hf
    · rw [List.length_cons, List.length_cons, h _ _ _ _ hf]
    · cases hf
  · cases hf
theorem vg_tup {x1} {u : MGs} (hc : X.calm = true) (hn : noStars es = true) (hl : ∀ ps σ g r, u ps σ g = some r → ps.length = es.length) (h : PGs X es (tGs W u)) : PG X (.Tuple es x1 pos) (tG W (gTup u)) := by
  obtain ⟨n1, n2⟩ := asg_len (env := X.env) hn
  refine PG.imp (pg_tup (n := es.length) hc h n1 n2) fun v σ H Q ⟨p, σp, g, ads, σ2, g2, hsl, hg, hv, hf, k⟩ => ?_
  unfold Vm.gTup at hf
  split at hf
  · obtain ⟨t, vs, rfl, h1, h2⟩ := rv_tup hv
    exact ⟨t, vs, rfl, .of h1, by rw [h2.length]; exact hl _ _ _ _ hf, _, σp, g, ads, σ2, g2, hsl, hg, h2, hf, k⟩
  · cases hf
theorem vg_sub (hu : X.A.units + 1 < cLine) (hb0 : noSlice b = true) (ha : PE X a (tE W fa)) (hb : PE X b (tE W fb)) : PG X (.Subscript a b pos) (tG W (gSub fa fb)) := by
  refine PG.imp (pg_sub ha hb (ok_set (W := W) hu) (by intro v; cases b <;> first | rfl | cases hb0)) fun v σ H Q ⟨p, σp, g, ads, σ2, g2, hsl, hg, hv, hf, k⟩ => ?_
  unfold Vm.gSub at hf
  split at hf
  · rename_i x g1 h1
    split at hf
    · rename_i y g3 h2
      split at hf
      · rename_i g4 h3
        cases hf
        refine ⟨σp, g, ads, x, g1, hsl, hg, h1, fun x' H1 ads1 e1 r1 rx => ⟨σp, g1, ads1, y, g3, hsl.mono e1, r1, h2, fun y' H2 ads2 e2 r2 ry => ?_⟩⟩
        exact ⟨x, y, p, g3, ads2, _, h3, r2, rx.mono e2, ry, hv.mono (e1.trans e2), fun H' e3 r3 => k _ _ _ ((e1.trans e2).trans e3) r3 (hsl.mono ((e1.trans e2).trans e3))⟩
      · cases hf
    · cases hf
  · cases hf

/-! ### comprehensions -/
def noSet : Expr → Bool
  | .Set _ _ _ => false
  | _ => true
theorem folded_eq {env : Env} (h : noSet e = true) : ∀ x, foldedSetIterable e env x = pure x := by
  intro x
  cases e <;> first | rfl | cases h
/-- a comprehension's target: a name, names -/
inductive Tgt where
  | name (i : Nat) | tup (is : List Nat)
def Tgt.ix : Tgt → List Nat
  | .name i => [i]
  | .tup is => is
def gNames : List Nat → List PV → Sl → G → Option (Sl × G)
  | [] => gNil
  | i :: r => gCons (gName i) (gNames r)
def readNs : List Nat → TGs
  | [] => L2.gNil
  | i :: r => L2.gCons (L2.gName i) (readNs r)
def Tgt.sem : Tgt → MG
  | .name i => gName i
  | .tup is => gTup (gNames is)
def Tgt.read (K : PySem.W.Frag) : Tgt → TG
  | .name i => L2.gName i
  | .tup is => L2.gTup K is.length (readNs is)
theorem wipe_set {σ : L2.St} {i : Nat} {x : Option V} : ∀ {vs : List Nat}, i ∈ vs → L2.wipe (σ.set i x) vs = L2.wipe σ vs
  | v :: vs, h => by
    unfold L2.wipe
    by_cases hm : i ∈ vs
    · rw [wipe_set hm]
    · have e : i = v := (List.mem_cons.mp h).elim id fun z => absurd z hm
      subst e
      have out : ∀ {ws : List Nat}, i ∉ ws → L2.wipe (σ.set i x) ws = (L2.wipe σ ws).set i x := by
        intro ws
        induction ws with
        | nil => intro _; rfl
        | cons u ws ih =>
          intro hn
          rw [List.mem_cons, not_or] at hn
          unfold L2.wipe
          rw [ih hn.2, List.set_comm _ _ hn.1]
      rw [out hm, List.set_set]
theorem wipe_wipe {σ : L2.St} : ∀ {ws vs : List Nat}, (∀ w ∈ ws, w ∈ vs) → L2.wipe (L2.wipe σ ws) vs = L2.wipe σ vs
  | [], vs, _ => rfl
  | w :: ws, vs, h => by
    show L2.wipe ((L2.wipe σ ws).set w none) vs = _
    rw [wipe_set (h w List.mem_cons_self), wipe_wipe fun u hu => h u (List.mem_cons_of_mem _ hu)]
theorem names_ok {W : Wd} {H : Hp} {ads : List Addr} {Q : L2.St → Hp → Prop} {vs : List Nat} : ∀ {is : List Nat} {ps : List PV} {xs : List V} {σp σ2 : Sl} {σ : L2.St} {g g' : G}, gNames is ps σp g = some (σ2, g') → RSl W H ads σp σ → RVs W H ads ps xs → (∀ i ∈ is, i ∈ vs) →
    g' = g ∧ ps.length = is.length ∧ ((∀ σ', RSl W H ads σ2 σ' → L2.wipe σ' vs = L2.wipe σ vs → Q σ' H) → readNs is xs σ H Q)
  | [], ps, xs, σp, σ2, σ, g, g', hf, hs, hr, _ => by
    unfold gNames Vm.gNil at hf
    split at hf
    · cases hf
      refine ⟨rfl, rfl, fun k => ?_⟩
      rw [hr.nil_eq]
      exact ⟨rfl, k _ hs rfl⟩
    · cases hf
  | i :: is, ps, xs, σp, σ2, σ, g, g', hf, hs, hr, hv => by
    unfold gNames Vm.gCons at hf
    split at hf
    · obtain ⟨v, t, rfl, r1, r2⟩ := hr.uncons
      obtain ⟨h1, h2, h3⟩ := names_ok hf (hs.set r1 i) r2 fun j hj => hv j (List.mem_cons_of_mem _ hj)
      refine ⟨h1, by rw [List.length_cons, List.length_cons, h2], fun k => ⟨v, t, rfl, ?_⟩⟩
      exact h3 fun σ' rs e => k σ' rs (by rw [e, wipe_set (hv i List.mem_cons_self)])
    · cases hf
theorem tgt_ok {W : Wd} {H : Hp} {ads : List Addr} {Q : L2.St → Hp → Prop} {vs : List Nat} {t : Tgt} {p : PV} {v : V} {σp σ2 : Sl} {σ : L2.St} {g g' : G} (hf : t.sem p σp g = some (σ2, g')) (hs : RSl W H ads σp σ) (hr : RV W H ads p v) (hv : ∀ i ∈ t.ix, i ∈ vs) :
    g' = g ∧ ((∀ σ', RSl W H ads σ2 σ' → L2.wipe σ' vs = L2.wipe σ vs → Q σ' H) → t.read W.K v σ H Q) := by
  cases t with
  | name i =>
    cases hf
    exact ⟨rfl, fun k => k _ (hs.set hr i) (wipe_set (hv i (by simp [Tgt.ix])))⟩
  | tup is =>
    cases p with
    | tup l =>
      have hf : gNames is l σp g = some (σ2, g') := hf
      obtain ⟨a, xs, rfl, h1, h2⟩ := rv_tup hr
      obtain ⟨q1, q2, q3⟩ := names_ok (Q := Q) hf hs h2 hv
      exact ⟨q1, fun k => ⟨a, xs, rfl, .of h1, by rw [h2.length]; exact q2, q3 k⟩⟩
    | _ => cases hf
/-- the loop's turns -/
theorem comp_turns {tg0 : Tgt} {t : ME Bool} {f : ME PV} {D : Addr} {σ : L2.St} {σp : Sl} {src : Src} {J : It} {vs : List Nat} {n : Nat} {H0 : Hp} {ads0 : List Addr} {g2 : G} {Qd : Hp → Prop}
    (hsrc : SrcOk W H0 ads0 src J) (hsl : RSl W H0 ads0 σp σ) (hn : ads0[n]? = some D) (hv : ∀ i ∈ tg0.ix, i ∈ vs) (hd : ∀ H ads, Ext W H0 ads0 H ads → RG W H ads g2 → Qd H) :
    ∀ (m : Nat) (H : Hp) (ads : List Addr) (g : G), Ext W H0 ads0 H ads → RG W H ads g → compLoop src σp vs tg0.sem t f n m 0 g = some g2 →
      ∃ Wt : Nat → Nat → Hp → Prop, (∃ m, Wt 0 m H) ∧ ∀ i m H, Wt i m H → (J.stop i H ∧ Qd H) ∨ (J.go i H ∧ ∃ Nx : Hp → Prop, (∀ H', Nx H' → ∃ m', m' < m ∧ Wt (i + 1) m' H') ∧ ∀ x H', J.yld i H x H' → tg0.read W.K x (L2.wipe σ vs) H' fun σ2 H2 => L2.wipe σ2 vs = L2.wipe σ vs ∧ tT W t σ2 H2 fun b H3 =>
        if b = true then tE W f σ2 H3 fun y H4 => ∃ acc, H4 D = some (.lst acc) ∧ acc.length < sizeLine ∧ Nx (upd H4 D (.lst (acc ++ [y]))) else Nx H3) := by
  intro m H ads g ex rg hf
  refine ⟨fun i m H => ∃ ads g, Ext W H0 ads0 H ads ∧ RG W H ads g ∧ compLoop src σp vs tg0.sem t f n m i g = some g2, ⟨m, ads, g, ex, rg, hf⟩, ?_⟩
  clear hf rg ex g ads H m
  rintro i m H ⟨ads, g, ex, rg, hf⟩
  cases m with
  | zero => cases hf
  | succ m =>
    unfold compLoop at hf
    split at hf
    · cases hf
    · rename_i hi
      cases hf
      exact .inl ⟨(hsrc i H ads _ ex rg).1 hi, hd H ads ex rg⟩
    · rename_i x hi
      obtain ⟨go, yl⟩ := (hsrc i H ads g ex rg).2 x hi
      split at hf
      · cases hf
      · rename_i σ2 g3 ht
        refine .inr ⟨go, fun H => ∃ ads g, Ext W H0 ads0 H ads ∧ RG W H ads g ∧ compLoop src σp vs tg0.sem t f n m (i + 1) g = some g2, fun H' q => ⟨m, Nat.lt_succ_self _, q⟩, fun x' H' y => ?_⟩
        obtain ⟨e1, r1, rx⟩ := yl x' H' y
        have ex1 := ex.trans e1
        obtain ⟨rfl, rd⟩ := tgt_ok (vs := vs) (Q := fun σ2 H2 => L2.wipe σ2 vs = L2.wipe σ vs ∧ tT W t σ2 H2 fun b H3 =>
          if b = true then tE W f σ2 H3 fun y H4 => ∃ acc, H4 D = some (.lst acc) ∧ acc.length < sizeLine ∧ (∃ ads g, Ext W H0 ads0 (upd H4 D (.lst (acc ++ [y]))) ads ∧ RG W (upd H4 D (.lst (acc ++ [y]))) ads g ∧ compLoop src σp vs tg0.sem t f n m (i + 1) g = some g2) else ∃ ads g, Ext W H0 ads0 H3 ads ∧ RG W H3 ads g ∧ compLoop src σp vs tg0.sem t f n m (i + 1) g = some g2) ht ((hsl.mono ex1).wipe vs) rx hv
        refine rd fun σ' rs hw => ⟨by rw [hw]; exact wipe_wipe fun w h => h, ?_⟩
        split at hf
        · rename_i g4 h4
          refine ⟨σ2, _, ads, false, g4, rs, r1, h4, fun b H3 ads3 e3 r3 hb => ?_⟩
          subst hb
          rw [if_neg Bool.false_ne_true]
          exact ⟨ads3, g4, ex1.trans e3, r3, hf⟩
        · rename_i g4 h4
          refine ⟨σ2, _, ads, true, g4, rs, r1, h4, fun b H3 ads3 e3 r3 hb => ?_⟩
          subst hb
          rw [if_pos rfl]
          split at hf
          · rename_i y g5 h5
            split at hf
            · rename_i acc h6
              split at hf
              · rename_i hz
                refine ⟨σ2, g4, ads3, y, g5, rs.mono e3, r3, h5, fun y' H4 ads4 e4 r4 ry => ?_⟩
                have exAll := (ex1.trans e3).trans e4
                obtain ⟨ks, q1, q2⟩ := r4.ob _ _ _ h6 (exAll.get hn)
                refine ⟨ks, q1, by rw [q2.length]; exact lt_line hz, ?_⟩
                obtain ⟨r5, e5⟩ := r4.put (o := .lst (ks ++ [y'])) (go := .lst (acc ++ [y])) (exAll.get hn) (no_tup q1 (fun _ z => nomatch z) (fun _ _ z => nomatch z)) fun e => ⟨_, upd_same, (q2.mono e).append (.cons (ry.mono e) .nil)⟩
                exact ⟨ads4, _, exAll.trans e5, r5, hf⟩
              · cases hf
            · cases hf
          · cases hf
        · cases hf
/-- the whole of it: what the rule of HandS asks -/
theorem lc_read {tg0 : Tgt} {it : MI} {t : ME Bool} {f : ME PV} {vs : List Nat} (hv : ∀ i ∈ tg0.ix, i ∈ vs) : ∀ σ H Q, tE W (eComp it vs tg0.sem t f) σ H Q → tLc (tI W it) (tg0.read W.K) (tT W t) (tE W f) vs σ H Q := by
  rintro σ H Q ⟨σp, g, ads, v, g', hsl, hg, hf, k⟩
  unfold eComp at hf
  split at hf
  · rename_i src g1 h1
    split at hf
    · rename_i g2 h2
      cases hf
      refine ⟨σp, g, ads, src, g1, hsl, hg, h1, fun J H1 ads1 e1 r1 so D hD => ?_⟩
      obtain ⟨r2, e2⟩ := r1.new (o := .lst []) (go := .lst []) hD fun _ => ⟨[], upd_same, .nil⟩
      have hn : (ads1 ++ [D])[g1.length]? = some D := by
        rw [← r1.len, List.getElem?_append_right (Nat.le_refl _), Nat.sub_self]
        rfl
      have so2 : SrcOk W (upd H1 D (.lst [])) (ads1 ++ [D]) src J := fun i H ads g e r => so i H ads g (e2.trans e) r
      exact comp_turns (Qd := fun H => Q (.ref D) H) so2 ((hsl.mono e1).mono e2) hn hv (fun H' ads' ex rg => k _ _ _ ((e1.trans e2).trans ex) rg (mk_ref (ex.get hn))) _ _ _ _ .refl r2 h2
    · cases hf
  · cases hf
  · cases hf
end
end Vm
end

section
set_option maxRecDepth 100000
set_option maxHeartbeats 4000000
/-! VmI: statements' readings; what the syntax means. -/
namespace Vm
open PySem L2 PySem.Spec PyProof.Rows

/-! ### statements -/
def Fin (W : Wd) (H : Hp) (ads : List Addr) (D : Ends) : RS → Prop
  | .nx σ2 g2 => ∀ σ' H' ads', Ext W H ads H' ads' → RG W H' ads' g2 → RSl W H' ads' σ2 σ' → D.nx σ' H'
  | .rt v g2 => ∀ v' H' ads', Ext W H ads H' ads' → RG W H' ads' g2 → RV W H' ads' v v' → D.rt v' H'
  | .bk σ2 g2 => ∀ σ' H' ads', Ext W H ads H' ads' → RG W H' ads' g2 → RSl W H' ads' σ2 σ' → D.bk σ' H'
  | .ct σ2 g2 => ∀ σ' H' ads', Ext W H ads H' ads' → RG W H' ads' g2 → RSl W H' ads' σ2 σ' → D.ct σ' H'
  | .xc _ _ _ => False
def tS (W : Wd) (f : MS) : TS := fun D σ H => ∃ σp g ads r, RSl W H ads σp σ ∧ RG W H ads g ∧ f σp g = some r ∧ Fin W H ads D r
theorem Fin.after {W : Wd} {H H' : Hp} {ads ads' : List Addr} {D : Ends} {r : RS} (h : Fin W H ads D r) (e : Ext W H ads H' ads') : Fin W H' ads' D r := by
  cases r with
  | nx σ2 g2 => exact fun σ' H2 a2 e2 => h σ' H2 a2 (e.trans e2)
  | rt v g2 => exact fun σ' H2 a2 e2 => h σ' H2 a2 (e.trans e2)
  | bk σ2 g2 => exact fun σ' H2 a2 e2 => h σ' H2 a2 (e.trans e2)
  | ct σ2 g2 => exact fun σ' H2 a2 e2 => h σ' H2 a2 (e.trans e2)
  | xc _ _ _ => exact h
theorem PSs.imp {X : Cx} {e : List Stmt} {t t' : TS} (h : PSs X e t) (k : ∀ D σ H, t' D σ H → t D σ H) : PSs X e t' := ⟨fun pins s σ H D I q => h.run pins s σ H D I (k D σ H q)⟩
section
variable {X : Cx} {W : Wd} {a b c e o i iter tg : Expr} {fa fb fe fo : ME PV} {pos pos' p2 : Pos} {st : Stmt} {rest body ba bb : List Stmt} {m m2 : MS} {t : ME Bool}
theorem ps_stuck : PS X st (tS W sStuck) := ⟨fun _ _ _ _ _ _ h => by
  obtain ⟨_, _, _, _, _, _, h, _⟩ := h
  cases h⟩
theorem vss_nil : PSs X [] (tS W sNext) := by
  refine PSs.imp pss_nil fun D σ H ⟨σp, g, ads, r, hs, hg, hf, k⟩ => ?_
  cases hf
  exact k _ _ _ .refl hg hs
theorem vss_cons (h1 : PS X st (tS W m)) (h2 : PSs X rest (tS W m2)) : PSs X (st :: rest) (tS W (sSeq m m2)) := by
  refine PSs.imp (pss_cons h1 h2) fun D σ H ⟨σp, g, ads, r, hs, hg, hf, k⟩ => ?_
  unfold sSeq at hf
  split at hf
  · rename_i σ1 g1 e1
    exact ⟨σp, g, ads, _, hs, hg, e1, fun σ' H' ads' ex rg rs => ⟨σ1, g1, ads', r, rs, rg, hf, k.after ex⟩⟩
  · rename_i hn
    refine ⟨σp, g, ads, r, hs, hg, hf, ?_⟩
    cases r with
    | nx σ2 g2 => exact absurd hf (hn _ _)
    | rt v g2 => exact k
    | bk σ2 g2 => exact k
    | ct σ2 g2 => exact k
    | xc _ _ _ => exact k
def noComp : Expr → Bool
  | .ListComp _ _ _ _ => false
  | .SetComp _ _ _ _ => false
  | .DictComp _ _ _ _ _ => false
  | _ => true
theorem swaps_no {l : Nat} {tg : Option Expr} {env : Env} (h : noComp e = true) : swapsWith e tg l env = pure false := by
  cases e <;> first | rfl | cases h
theorem sole_no {l : Nat} {tg : Expr} {env : Env} (h : noComp e = true) : swapsWithSole [tg] e l env = pure false := by
  cases e <;> first | rfl | cases h
theorem vs_expr (hn : noComp e = true) (he : PE X e (tE W fe)) : PS X (.Expr e pos) (tS W (sExpr fe)) := by
  refine PS.imp (ps_expr he (swaps_no hn)) fun D σ H ⟨σp, g, ads, r, hs, hg, hf, k⟩ => ?_
  unfold sExpr at hf
  split at hf
  · rename_i v g1 e1
    cases hf
    exact ⟨σp, g, ads, v, g1, hs, hg, e1, fun v' H' ads' ex rg rv => k _ _ _ ex rg (hs.mono ex)⟩
  · cases hf; exact k.elim
  · cases hf
theorem vs_ret (he : PE X e (tE W fe)) : PS X (.Return (some e) pos) (tS W (sRet fe)) := by
  refine PS.imp (ps_ret he) fun D σ H ⟨σp, g, ads, r, hs, hg, hf, k⟩ => ?_
  unfold sRet at hf
  split at hf
  · rename_i v g1 e1
    cases hf
    exact ⟨σp, g, ads, v, g1, hs, hg, e1, k⟩
  · cases hf; exact k.elim
  · cases hf
theorem vs_retN : PS X (.Return none pos) (tS W sRetN) := by
  refine PS.imp ps_retN fun D σ H ⟨σp, g, ads, r, hs, hg, hf, k⟩ => ?_
  cases hf
  exact k _ _ _ .refl hg mk_non
theorem vs_pass : PS X (.Pass pos) (tS W sNext) := by
  refine PS.imp ps_pass fun D σ H ⟨σp, g, ads, r, hs, hg, hf, k⟩ => ?_
  cases hf
  exact k _ _ _ .refl hg hs
theorem vs_break : PS X (.Break pos) (tS W sBk) := by
  refine PS.imp ps_break fun D σ H ⟨σp, g, ads, r, hs, hg, hf, k⟩ => ?_
  cases hf
  exact k _ _ _ .refl hg hs
theorem vs_cont : PS X (.Continue pos) (tS W sCt) := by
  refine PS.imp ps_continue fun D σ H ⟨σp, g, ads, r, hs, hg, hf, k⟩ => ?_
  cases hf
  exact k _ _ _ .refl hg hs
theorem vs_if (hc : PT X c (tT W t)) (ha : PSs X ba (tS W m)) (hb : PSs X bb (tS W m2)) : PS X (.If c ba bb pos) (tS W (sIf t m m2)) := by
  refine PS.imp (ps_if hc ha hb) fun D σ H ⟨σp, g, ads, r, hs, hg, hf, k⟩ => ?_
  unfold sIf at hf
  split at hf
  · rename_i g1 e1
    refine ⟨σp, g, ads, true, g1, hs, hg, e1, fun b' H' ads' ex rg rv => ?_⟩
    subst rv
    rw [if_pos rfl]
    exact ⟨σp, g1, ads', r, hs.mono ex, rg, hf, k.after ex⟩
  · rename_i g1 e1
    refine ⟨σp, g, ads, false, g1, hs, hg, e1, fun b' H' ads' ex rg rv => ?_⟩
    subst rv
    rw [if_neg Bool.false_ne_true]
    exact ⟨σp, g1, ads', r, hs.mono ex, rg, hf, k.after ex⟩
  · cases hf; exact k.elim
  · cases hf
/-- what an assignment reads -/
theorem asg_read {te : TE} {g0 : TG} {tgF : MG} {fe : ME PV} (h : ∀ σ H Q, tE W fe σ H Q → te σ H Q) (h2 : ∀ v σ H Q, tG W tgF v σ H Q → g0 v σ H Q) : ∀ D σ H, tS W (sAsg tgF fe) D σ H → tAsg te g0 D σ H := by
  rintro D σ H ⟨σp, g, ads, r, hs, hg, hf, k⟩
  unfold sAsg at hf
  split at hf
  · rename_i v g1 e1
    split at hf
    · rename_i σ2 g2 e2
      cases hf
      refine h _ _ _ ⟨σp, g, ads, v, g1, hs, hg, e1, fun v' H' ads' ex rg rv => h2 _ _ _ _ ⟨v, σp, g1, ads', σ2, g2, hs.mono ex, rg, rv, e2, fun σ' H'' ads'' ex2 => k _ _ _ (ex.trans ex2)⟩⟩
    · cases hf
  · cases hf; exact k.elim
  · cases hf
theorem gname_read {i : Nat} : ∀ v σ H Q, tG W (gName i) v σ H Q → L2.gName i v σ H Q := by
  rintro v σ H Q ⟨p, σp, g, ads, σ2, g2, hsl, hg, hv, hf, k⟩
  cases hf
  exact k _ _ _ .refl hg (hsl.set hv i)
theorem vs_set {i : Nat} {x : Str} (hN : X.N.Nodup) (hi : X.N[i]? = some x) (hx : Loc X.env.scope x) (hf : X.fn x = true ∨ X.env.scope.names.lookup x = some .local) (hs : swapsWith e (some (.Name x pos')) pos.line X.env = pure false) (he : PE X e (tE W fe)) :
    PS X (.Assign [.Name x pos'] e pos) (tS W (sAsg (gName i) fe)) :=
  PS.imp (ps_set hN hi hx he hs hf) (asg_read (fun _ _ _ h => h) gname_read)
/-- an attribute stored -/
theorem vs_fld {f : Str} (hs : swapsWith e (some (.Attribute o f pos')) pos.line X.env = pure false) (hat : W.isAttr f = true) (hn : ∀ c C, W.cls c = some C → NoAttr X.K C f) (hc : ∀ c C, W.cls c = some C → Cls X.K C) (ho : PE X o (tE W fo)) (he : PE X e (tE W fe)) :
    PS X (.Assign [.Attribute o f pos'] e pos) (tS W (sAsg (gAttr f fo) fe)) := by
  refine PS.imp (ps_fld ho he hs) fun D σ H ⟨σp, g, ads, r, hs, hg, hf, k⟩ => ?_
  unfold sAsg at hf
  split at hf
  · rename_i v g1 e1
    split at hf
    · rename_i σ2 g2 e2
      cases hf
      unfold gAttr at e2
      split at e2
      · rename_i n g3 e3
        split at e2
        · rename_i cc fs e4
          split at e2
          · rename_i hz
            cases e2
            refine ⟨σp, g, ads, v, g1, hs, hg, e1, fun v' H' ads' ex rg rv => ⟨σp, g1, ads', _, g3, hs.mono ex, rg, e3, fun x' H2 ads2 ex2 r2 rx => ?_⟩⟩
            obtain ⟨a, rfl, ha⟩ := rv_ref rx
            obtain ⟨C, dx, fs', o1, o2, o3, o4⟩ := r2.ob _ _ _ e4 ha
            obtain ⟨r3, ex3⟩ := r2.put (o := .ins C dx (putF f v' fs')) (go := .ins cc (setF f v fs)) ha (no_tup o1 (fun _ z => nomatch z) (fun _ _ z => nomatch z)) fun e => ⟨C, dx, _, upd_same, o2, (o3.mono e).setF ((rv.mono ex2).mono e), setF_all hat o4⟩
            have exA := (ex.trans ex2).trans ex3
            exact ⟨a, C, dx, fs', rfl, o1, hc _ _ o2, hn _ _ o2, by rw [o3.length]; omega, k _ _ _ exA r3 (hs.mono exA)⟩
          · cases e2
        · cases e2
      · cases e2
    · cases hf
  · cases hf; exact k.elim
  · cases hf
theorem vs_aug {f : Str} {op : Operator} {f2 : Op2} (hop : OpR X (inplaceOp op) (rP2 W f2)) (hat : W.isAttr f = true) (hn : ∀ c C, W.cls c = some C → NoAttr X.K C f) (hc : ∀ c C, W.cls c = some C → Cls X.K C) (ho : PE X o (tE W fo)) (he : PE X e (tE W fe)) :
    PS X (.AugAssign (.Attribute o f pos') op e pos) (tS W (sAugA f f2 fo fe)) := by
  refine PS.imp (ps_fldaug (rd := rP2 W f2) ho he (fun pins s σ H x y u v Q I rx ry q => hop pins s σ H x y u v Q I rx ry q)) fun D σ H ⟨σp, g, ads, r, hs, hg, hf, k⟩ => ?_
  unfold sAugA at hf
  split at hf
  · rename_i n g1 e1
    split at hf
    · rename_i cc fs e2
      split at hf
      · rename_i v e3
        split at hf
        · rename_i y g2 e4
          split at hf
          · rename_i z g3 e5
            split at hf
            · rename_i c2 fs2 e6
              split at hf
              · rename_i hz
                obtain ⟨hz1, hz⟩ := hz
                subst hz1
                cases hf
                refine ⟨σp, g, ads, _, g1, hs, hg, e1, fun x' H' ads' ex rg rx => ?_⟩
                obtain ⟨a, rfl, ha⟩ := rv_ref rx
                obtain ⟨C, dx, fs', o1, o2, o3, o4⟩ := rg.ob _ _ _ e2 ha
                have rl := o3.lookup f
                rw [e3] at rl
                cases hl : fs'.lookup f with
                | none => rw [hl] at rl; exact rl.elim
                | some w =>
                  rw [hl] at rl
                  refine ⟨a, C, dx, fs', w, rfl, o1, hc _ _ o2, hn _ _ o2, hl, σp, g1, ads', y, g2, hs.mono ex, rg, e4, fun y' H2 ads2 ex2 r2 ry => ⟨v, y, g2, ads2, z, g3, e5, r2, rl.mono ex2, ry, fun z' H3 ads3 ex3 r3 rz => ?_⟩⟩
                  have ha3 := (ex2.trans ex3).get ha
                  obtain ⟨C2, dx2, fs3, q1, q2, q3, q4⟩ := r3.ob _ _ _ e6 ha3
                  have eC : C2 = C := by
                    rw [o2] at q2
                    exact (Option.some.inj q2).symm
                  subst eC
                  refine ⟨dx2, fs3, q1, by rw [q3.length]; omega, ?_⟩
                  obtain ⟨r4, ex4⟩ := r3.put (o := .ins C2 dx2 (putF f z' fs3)) (go := .ins c2 (setF f z fs2)) ha3 (no_tup q1 (fun _ z => nomatch z) (fun _ _ z => nomatch z)) fun e => ⟨C2, dx2, _, upd_same, q2, (q3.mono e).setF (rz.mono e), setF_all hat q4⟩
                  have exA := ((ex.trans ex2).trans ex3).trans ex4
                  exact k _ _ _ exA r4 (hs.mono exA)
              · cases hf
            · cases hf
          · cases hf
        · cases hf; exact k.elim
        · cases hf
      · cases hf
    · cases hf
  · cases hf
theorem vs_asgT {tgF : MG} {ts : List Expr} {k0 : Nat} {p3 : Pos} (hn : noComp e = true) (hsw : swappedStores [.Tuple ts k0 p3] e X.env = pure none) (he : PE X e (tE W fe)) (hg : PG X (.Tuple ts k0 p3) (tG W tgF)) : PS X (.Assign [.Tuple ts k0 p3] e pos) (tS W (sAsg tgF fe)) :=
  PS.imp (ps_asg he hg (sole_no hn) hsw rfl) (asg_read (fun _ _ _ h => h) fun _ _ _ _ h => h)
theorem vs_asgS {tgF : MG} (hn : noComp e = true) (he : PE X e (tE W fe)) (hg : PG X (.Subscript a b p2) (tG W tgF)) : PS X (.Assign [.Subscript a b p2] e pos) (tS W (sAsg tgF fe)) :=
  PS.imp (ps_asg he hg (sole_no hn) (by cases e <;> rfl) rfl) (asg_read (fun _ _ _ h => h) fun _ _ _ _ h => h)
/-! loops -/
theorem vs_for {it : MI} {tgF : MG} (hp : PassesOwn (model X.prog X.w) X.A X.env X.xe) (hc : X.calm = true) (hi : PI X tg iter (tI W it)) (hg : PG X tg (tG W tgF)) (hb : PSs X body (tS W m)) (hs : noSet iter = true) :
    PS X (.For tg iter body [] pos) (tS W (sFor it tgF m)) := by
  refine PS.imp (ps_for hp hc hi hg hb (folded_eq hs)) fun D σ H ⟨σp, g, ads, r, hsl, hg, hf, k⟩ => ?_
  unfold sFor at hf
  split at hf
  · rename_i src g1 e1
    refine ⟨σp, g, ads, src, g1, hsl, hg, e1, fun J H1 ads1 ex1 r1 so => ?_⟩
    refine ⟨fun i m' σ' H' => ∃ σp' ads' g', Ext W H1 ads1 H' ads' ∧ RSl W H' ads' σp' σ' ∧ RG W H' ads' g' ∧ forLoop src tgF m m' i σp' g' = some r, ⟨_, σp, ads1, g1, .refl, hsl.mono ex1, r1, hf⟩, ?_⟩
    rintro i m' σ' H' ⟨σp', ads', g', ex, rs, rg, hl⟩
    cases m' with
    | zero => cases hl
    | succ m' =>
      unfold forLoop at hl
      split at hl
      · cases hl
      · rename_i hit
        cases hl
        exact .inl ⟨(so i H' ads' g' ex rg).1 hit, k _ _ _ (ex1.trans ex) rg rs⟩
      · rename_i x hit
        obtain ⟨go, yl⟩ := (so i H' ads' g' ex rg).2 x hit
        refine .inr ⟨go, fun σ' H' => ∃ σp' ads' g', Ext W H1 ads1 H' ads' ∧ RSl W H' ads' σp' σ' ∧ RG W H' ads' g' ∧ forLoop src tgF m m' (i + 1) σp' g' = some r, fun σ2 H2 q => ⟨m', Nat.lt_succ_self _, q⟩, fun x' H2 y => ?_⟩
        obtain ⟨e2, r2, rx⟩ := yl x' H2 y
        split at hl
        · cases hl
        · rename_i σ2 g2 ht
          refine ⟨x, σp', g', ads', σ2, g2, rs.mono e2, r2, rx, ht, fun σ3 H3 ads3 e3 r3 rs3 => ?_⟩
          have exA := (ex.trans e2).trans e3
          split at hl
          · rename_i σ4 g4 hb4
            exact ⟨σ2, g2, ads3, _, rs3, r3, hb4, fun σ5 H5 ads5 e5 r5 rs5 => ⟨σ4, ads5, g4, exA.trans e5, rs5, r5, hl⟩⟩
          · rename_i σ4 g4 hb4
            exact ⟨σ2, g2, ads3, _, rs3, r3, hb4, fun σ5 H5 ads5 e5 r5 rs5 => ⟨σ4, ads5, g4, exA.trans e5, rs5, r5, hl⟩⟩
          · rename_i σ4 g4 hb4
            cases hl
            exact ⟨σ2, g2, ads3, _, rs3, r3, hb4, fun σ5 H5 ads5 e5 r5 rs5 => k _ _ _ ((ex1.trans exA).trans e5) r5 rs5⟩
          · rename_i n1 n2 n3
            refine ⟨σ2, g2, ads3, r, rs3, r3, hl, ?_⟩
            have k' := k.after (ex1.trans exA)
            cases r with
            | nx σ2 g2 => exact absurd hl (n1 _ _)
            | rt v g2 => exact k'
            | bk σ2 g2 => exact absurd hl (n3 _ _)
            | ct σ2 g2 => exact absurd hl (n2 _ _)
            | xc _ _ _ => exact k'
  · cases hf; exact k.elim
  · cases hf
theorem vs_while (hp : PassesOwn (model X.prog X.w) X.A X.env X.xe) (hc : PT X c (tT W t)) (hb : PSs X body (tS W m)) : PS X (.While c body [] pos) (tS W (sWhile t m)) := by
  refine PS.imp (ps_while hp hc hb) fun D σ H ⟨σp, g, ads, r, hsl, hg, hf, k⟩ => ?_
  refine ⟨fun m' σ' H' => ∃ σp' ads' g', Ext W H ads H' ads' ∧ RSl W H' ads' σp' σ' ∧ RG W H' ads' g' ∧ whileLoop t m m' σp' g' = some r, ⟨_, σp, ads, g, .refl, hsl, hg, hf⟩, ?_⟩
  rintro m' σ' H' ⟨σp', ads', g', ex, rs, rg, hl⟩
  cases m' with
  | zero => cases hl
  | succ m' =>
    unfold whileLoop at hl
    split at hl
    · rename_i g1 h1
      refine ⟨σp', g', ads', true, g1, rs, rg, h1, fun b H2 ads2 e2 r2 hb => ?_⟩
      subst hb
      rw [if_pos rfl]
      refine ⟨fun σ' H' => ∃ σp' ads' g', Ext W H ads H' ads' ∧ RSl W H' ads' σp' σ' ∧ RG W H' ads' g' ∧ whileLoop t m m' σp' g' = some r, fun σ2 H2 q => ⟨m', Nat.lt_succ_self _, q⟩, ?_⟩
      have exA := ex.trans e2
      split at hl
      · rename_i σ4 g4 hb4
        exact ⟨σp', g1, ads2, _, rs.mono e2, r2, hb4, fun σ5 H5 ads5 e5 r5 rs5 => ⟨σ4, ads5, g4, exA.trans e5, rs5, r5, hl⟩⟩
      · rename_i σ4 g4 hb4
        exact ⟨σp', g1, ads2, _, rs.mono e2, r2, hb4, fun σ5 H5 ads5 e5 r5 rs5 => ⟨σ4, ads5, g4, exA.trans e5, rs5, r5, hl⟩⟩
      · rename_i σ4 g4 hb4
        cases hl
        exact ⟨σp', g1, ads2, _, rs.mono e2, r2, hb4, fun σ5 H5 ads5 e5 r5 rs5 => k _ _ _ (exA.trans e5) r5 rs5⟩
      · rename_i n1 n2 n3
        refine ⟨σp', g1, ads2, r, rs.mono e2, r2, hl, ?_⟩
        have k' := k.after exA
        cases r with
        | nx σ2 g2 => exact absurd hl (n1 _ _)
        | rt v g2 => exact k'
        | bk σ2 g2 => exact absurd hl (n3 _ _)
        | ct σ2 g2 => exact absurd hl (n2 _ _)
        | xc _ _ _ => exact k'
    · rename_i g1 h1
      cases hl
      refine ⟨σp', g', ads', false, g1, rs, rg, h1, fun b H2 ads2 e2 r2 hb => ?_⟩
      subst hb
      rw [if_neg Bool.false_ne_true]
      exact k _ _ _ (ex.trans e2) r2 (rs.mono e2)
    · cases hl; exact k.elim
    · cases hl
theorem vs_try {h0 : ExceptHandler} {hs : List ExceptHandler} (hb : PSs X.nox body (tS W m)) : PS X (.Try body (h0 :: hs) [] [] pos) (tS W (sTry0 m)) := by
  refine PS.imp (ps_try_thru0 hb) fun D σ H ⟨σp, g, ads, r, hsl, hg, hf, k⟩ => ?_
  unfold sTry0 at hf
  split at hf
  · cases hf
  · exact ⟨σp, g, ads, r, hsl, hg, hf, k⟩
end
end Vm
end

section
set_option maxRecDepth 100000
set_option maxHeartbeats 8000000
/-! VmJ: what a piece of syntax means, and that the model does it. -/
namespace Vm
open PySem L2 PySem.Spec PyProof.Rows

inductive Gb where
  | val (v : PV) | fn (nm : FName) | cls (c : Str)
structure Cxt where
  N : List Str
  sc : Scope
  call : CallT
  glob : Str → Option Gb
  blt : Str → Bool
  attr : Str → Bool
  isDef : Bool

def ixOf (x : Str) : List Str → Option Nat
  | [] => none
  | y :: r => if y = x then some 0 else match ixOf x r with
    | some i => some (i + 1)
    | none => none
theorem ixOf_get {x : Str} : ∀ {N : List Str} {i : Nat}, ixOf x N = some i → N[i]? = some x
  | [], _, h => by cases h
  | y :: r, i, h => by
    unfold ixOf at h
    split at h
    · cases h; rename_i e; rw [e]; rfl
    · split at h
      · rename_i j e
        cases h
        rw [List.getElem?_cons_succ]
        exact ixOf_get e
      · cases h
def okNm (x : Str) : Bool := !(x == ("__debug__" : Str)) && !(x == ("__classdict__" : Str)) && decide (x ≠ "__name__")
def visB (sc : Scope) (x : Str) : Bool := match sc.names.lookup x with
  | some .local => true
  | some .cell => true
  | some .free => true
  | _ => false
def locB (sc : Scope) (x : Str) : Bool := match sc.names.lookup x with
  | some .local => true
  | some .cell => true
  | _ => false
def isLocal (sc : Scope) (x : Str) : Bool := match sc.names.lookup x with
  | some .local => true
  | _ => false
def glB (sc : Scope) (x : Str) : Bool := match sc.names.lookup x with
  | some .globalImplicit => true
  | _ => false
def slotOf (cx : Cxt) (x : Str) : Option Nat := if (visB cx.sc x && okNm x) = true then ixOf x cx.N else none
/-- where a name may be stored -/
def storeOf (cx : Cxt) (x : Str) : Option Nat := if (isLocal cx.sc x || (cx.isDef && locB cx.sc x)) = true then ixOf x cx.N else none

def cmpF : CmpOp → Option Op2
  | .Eq => some opEq
  | .NotEq => some opNe
  | .Lt => some opLt
  | .LtE => some opLe
  | .Gt => some opGt
  | .GtE => some opGe
  | .In => some opIn
  | .NotIn => some opNotIn
  | .Is => some opIsN
  | .IsNot => some opNotN
def binF : Operator → Option Op2
  | .Add => some opAdd
  | .Sub => some opSub
  | .Mult => some opMul
  | .FloorDiv => some opDiv
  | .Mod => some opMod
  | .Pow => some opPow
  | _ => none
def augF : Operator → Option Op2
  | .Add => some opIAdd
  | .Sub => some opSub
  | _ => none
def fnF (x : Str) : Option OpN :=
  if x = "len" then some fLen else if x = "int" then some fInt else if x = "sum" then some fSum else if x = "min" then some fMin else if x = "max" then some fMax
  else if x = "all" then some fAll else if x = "any" then some fAny else if x = "tuple" then some fTuple else if x = "list" then some fList else if x = "dict" then some fDict else none
def mtF (x : Str) : Option ((PV → G → Bool) × OpN) :=
  if x = "append" then some (isL, mAppend) else if x = "extend" then some (isL, mExtend) else if x = "pop" then some (isL, mPop) else if x = "get" then some (isD, mGet) else none
/-- a test that is not its value's truth -/
def odd : Expr → Bool
  | .UnaryOp .Not _ _ => true
  | .BoolOp _ _ _ => true
  | .IfExp _ _ _ _ => true
  | .Compare _ _ _ _ => true
  | _ => false
def bltB (cx : Cxt) (x : Str) : Bool := glB cx.sc x && cx.blt x && okNm x
def tgtOf (cx : Cxt) (sc : Scope) : Expr → Option (Tgt × List (Str × Nat))
  | .Name x _ => if isLocal sc x = true then (match ixOf x cx.N with
    | some i => some (.name i, [(x, i)])
    | none => none) else none
  | .Tuple es _ _ => match names es with
    | some l => some (.tup (l.map (·.2)), l)
    | none => none
  | _ => none
where
  names : List Expr → Option (List (Str × Nat))
    | [] => some []
    | .Name x _ :: r => if isLocal sc x = true then (match ixOf x cx.N, names r with
      | some i, some l => some ((x, i) :: l)
      | _, _ => none) else none
    | _ => none
def inner (cx : Cxt) (scope : Scope) : Cxt := { cx with sc := relS scope cx.sc, isDef := false }

mutual
def denE : Nat → Cxt → Expr → ME PV
  | 0, _, _ => ME.stuck
  | n + 1, cx, e => match e with
    | .Constant (.int i) _ _ => eC (.int i)
    | .Constant (.bool b) _ _ => eC (.bl b)
    | .Constant .none _ _ => eC .non
    | .Constant (.str x) _ _ => eC (.str x)
    | .Name x _ => (match slotOf cx x with
      | some i => eVar i
      | none => if (glB cx.sc x && okNm x) = true then (match cx.glob x with
        | some (.val v) => eC v
        | _ => ME.stuck) else ME.stuck)
    | .BinOp a op b _ => (match binF op with
      | some f => eOp2 f (denE n cx a) (denE n cx b)
      | none => ME.stuck)
    | .UnaryOp .USub a _ => eOp1 unNeg (denE n cx a)
    | .UnaryOp .Not a _ => eBl (tNot (tTru (denE n cx a)))
    | .BoolOp op vs _ => denB n cx op vs
    | .IfExp c a b _ => eIf (denT n cx c) (denE n cx a) (denE n cx b)
    | .Compare a [op] [b] _ => (match cmpF op with
      | some f => if behindInMarks op b = false then eOp2 f (denE n cx a) (denE n cx b) else ME.stuck
      | none => ME.stuck)
    | .Compare a [op, op'] [b, c] _ => (match cmpF op, cmpF op' with
      | some f, some h => if (!behindInMarks op b && !behindInMarks op' c) = true then eChain f h (denE n cx a) (denE n cx b) (denE n cx c) else ME.stuck
      | _, _ => ME.stuck)
    | .Attribute o f _ => if (cx.attr f && okBase o) = true then eAttr f (denE n cx o) else ME.stuck
    | .Subscript a (.Slice lo hi none _) _ => eSl (denE n cx a) (denO n cx lo) (denO n cx hi)
    | .Subscript a i _ => if noSlice i = true then eOp2 opIx (denE n cx a) (denE n cx i) else ME.stuck
    | .Tuple es _ _ => if noStars es = true then eTup (denA n cx es) else ME.stuck
    | .List es _ => if noStars es = true then eLst (denA n cx es) else ME.stuck
    | .Dict [] [] _ => eDct0
    | .Dict (some k :: ks) (v :: vs) _ => if ((some k :: ks).all (·.isSome) && decide ((some k :: ks).length = (v :: vs).length) && decide ((some k :: ks).length ≤ 15)) = true then eDct (denP n cx (some k :: ks) (v :: vs)) else ME.stuck
    | .ListComp elt [⟨tg, it, ifs, 0⟩] scope _ => (match tgtOf cx (relS scope cx.sc) tg with
      | some (t, own) => if (blkC cx.N cx.sc scope own && noSet it) = true then eComp (denI n cx tg it) (own.map (·.2)) t.sem (denIf n (inner cx scope) ifs) (denE n (inner cx scope) elt) else ME.stuck
      | none => ME.stuck)
    | .Call (.Name x _) es [] _ => if (glB cx.sc x && okNm x && noStars es) = true then (match cx.glob x with
      | some (.fn nm) => eCall cx.call nm (denA n cx es)
      | some (.cls c) => eNew cx.call c (denA n cx es)
      | some (.val _) => ME.stuck
      | none => if cx.blt x = true then (match fnF x, es with
        | some f, _ :: _ => eFn f (denA n cx es)
        | none, [a, .Name y _] => if (decide (x = "isinstance") && bltB cx y && noStar a) = true then (if y = "int" then eIsTy ["int"] (denE n cx a) else if y = "bool" then eIsTy ["bool"] (denE n cx a) else if y = "str" then eIsTy ["str"] (denE n cx a) else if y = "tuple" then eIsTy ["tuple"] (denE n cx a) else if y = "list" then eIsTy ["list"] (denE n cx a) else if y = "dict" then eIsTy ["dict"] (denE n cx a) else ME.stuck) else ME.stuck
        | _, _ => ME.stuck) else ME.stuck) else ME.stuck
    | .Call (.Attribute o m apos) es [] cpos => if (okBase o && (apos.endLine == cpos.line) && noStars es && decide (es.length < 29)) = true then (match mtF m with
      | some (okp, f) => eMt okp f (denE n cx o) (denA n cx es)
      | none => if cx.attr m = false then eMeth cx.call m (denE n cx o) (denA n cx es) else ME.stuck) else ME.stuck
    | _ => ME.stuck
termination_by structural n => n
def denT : Nat → Cxt → Expr → ME Bool
  | 0, _, _ => ME.stuck
  | n + 1, cx, e => match e with
    | .UnaryOp .Not a _ => tNot (denT n cx a)
    | .BoolOp op vs _ => denW n cx op vs
    | .Compare a [op] [b] _ => (match cmpF op with
      | some f => if behindInMarks op b = false then tBl (eOp2 f (denE n cx a) (denE n cx b)) else ME.stuck
      | none => ME.stuck)
    | .Compare a [op, op'] [b, c] _ => (match cmpF op, cmpF op' with
      | some f, some h => if (!behindInMarks op b && !behindInMarks op' c) = true then tBl (eChain f h (denE n cx a) (denE n cx b) (denE n cx c)) else ME.stuck
      | _, _ => ME.stuck)
    | e => if odd e = false then tTru (denE n cx e) else ME.stuck
termination_by structural n => n
/-- and, or as tests -/
def denW : Nat → Cxt → BoolOp → List Expr → ME Bool
  | 0, _, _, _ => ME.stuck
  | n + 1, cx, op, vs => match op, vs with
    | _, [a] => denT n cx a
    | .And, a :: b :: r => tAnd (denT n cx a) (denW n cx .And (b :: r))
    | .Or, a :: b :: r => tOr (denT n cx a) (denW n cx .Or (b :: r))
    | _, [] => ME.stuck
termination_by structural n => n
def denB : Nat → Cxt → BoolOp → List Expr → ME PV
  | 0, _, _, _ => ME.stuck
  | n + 1, cx, op, vs => match op, vs with
    | _, [a] => denE n cx a
    | .And, a :: b :: r => eAnd (denE n cx a) (denB n cx .And (b :: r))
    | .Or, a :: b :: r => eOr (denE n cx a) (denB n cx .Or (b :: r))
    | _, [] => ME.stuck
termination_by structural n => n
def denA : Nat → Cxt → List Expr → ME (List PV)
  | 0, _, [] => eNil
  | 0, _, _ :: _ => ME.stuck
  | n + 1, cx, es => match es with
    | [] => eNil
    | a :: r => if noStar a = true then eCons (denE n cx a) (denA n cx r) else ME.stuck
termination_by structural n => n
def denO : Nat → Cxt → Option Expr → ME (Option Int)
  | 0, _, _ => ME.stuck
  | n + 1, cx, e => match e with
    | none => ePartN
    | some a => ePart (denE n cx a)
termination_by structural n => n
def denIf : Nat → Cxt → List Expr → ME Bool
  | 0, _, _ => ME.stuck
  | n + 1, cx, es => match es with
    | [] => tYes
    | [c] => denT n cx c
    | _ => ME.stuck
termination_by structural n => n
def denP : Nat → Cxt → List (Option Expr) → List Expr → List (ME PV × ME PV)
  | 0, _, [], [] => []
  | 0, _, _, _ => [(ME.stuck, ME.stuck)]
  | n + 1, cx, ks, vs => match ks, vs with
    | some k :: ks, v :: vs => (denE n cx k, denE n cx v) :: denP n cx ks vs
    | _, _ => []
termination_by structural n => n
def denI : Nat → Cxt → Expr → Expr → MI
  | 0, _, _, _ => ME.stuck
  | n + 1, cx, tg, it => match it with
    | .Call (.Name x _) es [] _ => if (bltB cx x && noStars es && decide (x = "zip" ∨ x = "enumerate" ∨ x = "reversed" ∨ x = "range")) = true then (match es, tg with
      | [a, b], .Tuple _ _ _ => if x = "zip" then iZip (denE n cx a) (denE n cx b) else ME.stuck
      | [a], .Tuple _ _ _ => if x = "enumerate" then iEnum (denE n cx a) else if x = "reversed" then iRev (denE n cx a) else ME.stuck
      | [a], _ => if x = "reversed" then iRev (denE n cx a) else if x = "range" then iRng1 (denE n cx a) else ME.stuck
      | [a, b], _ => if x = "range" then iRng2 (denE n cx a) (denE n cx b) else ME.stuck
      | [a, b, .UnaryOp .USub (.Constant (.int 1) _ _) _], _ => if x = "range" then iRngD (denE n cx a) (denE n cx b) else ME.stuck
      | _, _ => ME.stuck) else iBs (denE n cx it)
    | _ => iBs (denE n cx it)
termination_by structural n => n
end
end Vm
end

section
set_option maxRecDepth 100000
set_option maxHeartbeats 8000000
/-! VmK: the model does what the syntax means (expressions). -/
namespace Vm
open PySem L2 PySem.Spec PyProof.Rows

structure Ok (X : Cx) (W : Wd) (cx : Cxt) (k : Nat) : Prop where
  hK : W.K = X.K
  hw : W.w = X.w
  hN : X.N = cx.N
  nd : X.N.Nodup
  sc : X.env.scope = cx.sc
  calm : X.calm = true
  room : Room (2 * k + 1) X.A
  fn : cx.isDef = true → ∀ x, X.fn x = true
  attr : cx.attr = W.isAttr
  val : ∀ x v, cx.glob x = some (.val v) → ∃ u v', X.mg x = some u ∧ RelV v' u ∧ ∀ H ads, RV W H ads v v'
  fns : ∀ x nm, cx.glob x = some (.fn nm) → ∃ f, X.mg x = some (.ref f) ∧ FnAt X W (2 * k) cx.call nm f
  clss : ∀ x c, cx.glob x = some (.cls c) → ∃ C f, X.mg x = some (.ref C) ∧ W.cls c = some C ∧ Mk X.K C f ∧ FnAt X W (2 * k) cx.call (c, "__init__") f
  mth : ∀ c C m xs g r, W.cls c = some C → cx.call (c, m) xs g = some r → ∃ f, Meth X.K C m f ∧ FnAt X W (2 * k) cx.call (c, m) f
  cl : ∀ c C, W.cls c = some C → Cls X.K C
  at_ : ∀ f, W.isAttr f = true → ∀ c C, W.cls c = some C → NoAttr X.K C f
  blt : ∀ x, cx.blt x = true → X.mg x = none
  po : PassesOwn (model X.prog X.w) X.A X.env X.xe

section
variable {X : Cx} {W : Wd} {cx : Cxt} {k : Nat}
theorem Ok.u64 (O : Ok X W cx k) : X.A.units + 64 < cLine := O.room.units
theorem Ok.u1 (O : Ok X W cx k) : X.A.units + 1 < cLine := hu_of O.room
theorem gl_of (O : Ok X W cx k) {x : Str} (h : glB cx.sc x = true) : Gl X x := by
  unfold glB at h
  show X.env.scope.names.lookup x = some .globalImplicit
  rw [O.sc]
  split at h
  · assumption
  · cases h
theorem vis_of (O : Ok X W cx k) {x : Str} (h : visB cx.sc x = true) : Vis X.env.scope x := by
  unfold visB at h
  unfold Vis
  rw [O.sc]
  split at h
  · exact .inl (by assumption)
  · exact .inr (.inl (by assumption))
  · exact .inr (.inr (by assumption))
  · cases h
theorem loc_of (O : Ok X W cx k) {x : Str} (h : isLocal cx.sc x = true) : X.env.scope.names.lookup x = some .local := by
  unfold isLocal at h
  rw [O.sc]
  split at h
  · assumption
  · cases h
theorem locB_of (O : Ok X W cx k) {x : Str} (h : locB cx.sc x = true) : L2.Loc X.env.scope x := by
  unfold locB at h
  unfold L2.Loc
  rw [O.sc]
  split at h
  · exact .inl (by assumption)
  · exact .inr (by assumption)
  · cases h
theorem okNm_of {x : Str} (h : okNm x = true) : (x == ("__debug__" : Str)) = false ∧ (x == ("__classdict__" : Str)) = false ∧ x ≠ "__name__" := by
  unfold okNm at h
  rw [Bool.and_eq_true, Bool.and_eq_true, decide_eq_true_eq, Bool.not_eq_true', Bool.not_eq_true'] at h
  exact ⟨h.1.1, h.1.2, h.2⟩
theorem store_of (O : Ok X W cx k) {x : Str} {i : Nat} (h : storeOf cx x = some i) : X.N[i]? = some x ∧ L2.Loc X.env.scope x ∧ (X.fn x = true ∨ X.env.scope.names.lookup x = some .local) := by
  unfold storeOf at h
  split at h
  · rename_i hc
    refine ⟨by rw [O.hN]; exact ixOf_get h, ?_⟩
    rw [Bool.or_eq_true, Bool.and_eq_true] at hc
    rcases hc with hc | ⟨h1, h2⟩
    · have := loc_of O hc
      exact ⟨.inl this, .inr this⟩
    · exact ⟨locB_of O h2, .inl (O.fn h1 x)⟩
  · cases h
theorem blt_of (O : Ok X W cx k) {x : Str} (h : bltB cx x = true) : Gl X x ∧ X.mg x = none ∧ (x == ("__debug__" : Str)) = false ∧ x ≠ "__name__" := by
  unfold bltB at h
  rw [Bool.and_eq_true, Bool.and_eq_true] at h
  obtain ⟨q1, q2, q3⟩ := okNm_of h.2
  exact ⟨gl_of O h.1.1, O.blt x h.1.2, q1, q3⟩
/-- the block of a comprehension -/
theorem Ok.blk (O : Ok X W cx k) {scope : Scope} {own : List (Str × Nat)} (s : Shared) (H : Hp) (C : Addr) (cl : List (Str × Addr)) (fp : List Addr) : Ok (X.blk s H scope (compEnvC scope cl C X.env) fp) W (inner cx scope) k where
  hK := O.hK
  hw := O.hw
  hN := O.hN
  nd := O.nd
  sc := by
    show relabel scope X.env = relS scope cx.sc
    rw [← O.sc]
    rfl
  calm := O.calm
  room := O.room
  fn := fun h => by cases h
  attr := O.attr
  val := O.val
  fns := fun x nm h => let ⟨f, h1, h2⟩ := O.fns x nm h; ⟨f, h1, ⟨h2.kp, h2.ok⟩⟩
  clss := fun x c h => let ⟨C, f, h1, h2, h3, h4⟩ := O.clss x c h; ⟨C, f, h1, h2, h3, ⟨h4.kp, h4.ok⟩⟩
  mth := fun c C m xs g r h1 h2 => let ⟨f, h3, h4⟩ := O.mth c C m xs g r h1 h2; ⟨f, h3, ⟨h4.kp, h4.ok⟩⟩
  cl := O.cl
  at_ := O.at_
  blt := O.blt
  po := PassesOwn.never
theorem Ok.nox (O : Ok X W cx k) : Ok X.nox W cx k where
  hK := O.hK
  hw := O.hw
  hN := O.hN
  nd := O.nd
  sc := O.sc
  calm := O.calm
  room := O.room
  fn := O.fn
  attr := O.attr
  val := O.val
  fns := fun x nm h => let ⟨f, h1, h2⟩ := O.fns x nm h; ⟨f, h1, ⟨h2.kp, h2.ok⟩⟩
  clss := fun x c h => let ⟨C, f, h1, h2, h3, h4⟩ := O.clss x c h; ⟨C, f, h1, h2, h3, ⟨h4.kp, h4.ok⟩⟩
  mth := fun c C m xs g r h1 h2 => let ⟨f, h3, h4⟩ := O.mth c C m xs g r h1 h2; ⟨f, h3, ⟨h4.kp, h4.ok⟩⟩
  cl := O.cl
  at_ := O.at_
  blt := O.blt
  po := PassesOwn.never
theorem cmp_ok (O : Ok X W cx k) {op : CmpOp} {f : Op2} (h : cmpF op = some f) : OpR X (compareOp op) (rP2 W f) := by
  cases op <;> cases h
  · exact ok_eq O.hK O.u64
  · exact ok_ne O.hK O.u64
  · exact ok_cmpI op_lt
  · exact ok_cmpI op_le
  · exact ok_cmpI op_gt
  · exact ok_cmpI op_ge
  · exact ok_isN
  · exact ok_notN
  · exact ok_inB O.hK O.hw O.u1 false
  · exact ok_inB O.hK O.hw O.u1 true
theorem bin_ok (O : Ok X W cx k) {op : Operator} {f : Op2} (h : binF op = some f) : OpR X (binaryOp op) (rP2 W f) := by
  cases op <;> first | cases h | skip
  · exact ok_add O.hK
  · exact ok_sub
  · exact ok_mul
  · exact ok_mod
  · exact ok_pow
  · exact ok_div
theorem aug_ok {op : Operator} {f : Op2} (h : augF op = some f) : OpR X (inplaceOp op) (rP2 W f) := by
  cases op <;> first | cases h | skip
  · exact iok_add
  · exact iok_sub

/-! ### the step -/
structure Den (n : Nat) : Prop where
  e : ∀ {X : Cx} {W : Wd} {cx : Cxt} {k : Nat}, Ok X W cx k → ∀ e, PE X e (tE W (denE n cx e))
  t : ∀ {X : Cx} {W : Wd} {cx : Cxt} {k : Nat}, Ok X W cx k → ∀ e, PT X e (tT W (denT n cx e))
  w : ∀ {X : Cx} {W : Wd} {cx : Cxt} {k : Nat}, Ok X W cx k → ∀ op vs pos, PW X (.BoolOp op vs pos) (tT W (denW n cx op vs))
  b : ∀ {X : Cx} {W : Wd} {cx : Cxt} {k : Nat}, Ok X W cx k → ∀ op vs pos, PE X (.BoolOp op vs pos) (tE W (denB n cx op vs))
  a : ∀ {X : Cx} {W : Wd} {cx : Cxt} {k : Nat}, Ok X W cx k → ∀ es, PA X es (tA W (denA n cx es))
  o : ∀ {X : Cx} {W : Wd} {cx : Cxt} {k : Nat}, Ok X W cx k → ∀ e, PO X e (tO W (denO n cx e))
  f : ∀ {X : Cx} {W : Wd} {cx : Cxt} {k : Nat}, Ok X W cx k → ∀ es, PTs X es (tT W (denIf n cx es))
  p : ∀ {X : Cx} {W : Wd} {cx : Cxt} {k : Nat}, Ok X W cx k → ∀ pos ks vs, ks.all (·.isSome) = true → ks.length = vs.length → PPs X pos ks vs ((denP n cx ks vs).map fun q => (tE W q.1, tE W q.2)) ∨ (ME.stuck, ME.stuck) ∈ denP n cx ks vs
  i : ∀ {X : Cx} {W : Wd} {cx : Cxt} {k : Nat}, Ok X W cx k → ∀ tg it, PI X tg it (tI W (denI n cx tg it))
end
theorem pw_stuck {X : Cx} {W : Wd} {e : Expr} : PW X e (tT W ME.stuck) := ⟨fun _ _ _ _ _ _ _ h => by
  obtain ⟨_, _, _, _, _, _, _, h, _⟩ := h
  cases h⟩
theorem pts_stuck {X : Cx} {W : Wd} {e : List Expr} : PTs X e (tT W ME.stuck) := ⟨fun _ _ _ _ _ _ h => by
  obtain ⟨_, _, _, _, _, _, _, h, _⟩ := h
  cases h⟩
theorem pi_stuck {X : Cx} {W : Wd} {tg e : Expr} : PI X tg e (tI W ME.stuck) := ⟨fun _ _ _ _ _ _ h => by
  obtain ⟨_, _, _, _, _, _, _, h, _⟩ := h
  cases h⟩
theorem denA_nil (cx : Cxt) : ∀ n, denA n cx [] = eNil
  | 0 => rfl
  | _ + 1 => rfl
theorem denA_h0 {cx : Cxt} {n : Nat} {es : List Expr} (h : es = []) : denA n cx es = eNil := by rw [h, denA_nil]
theorem den0 : Den 0 where
  e := fun _ _ => pe_stuck
  t := fun _ _ => pt_stuck
  w := fun _ _ _ _ => pw_stuck
  b := fun _ _ _ _ => pe_stuck
  a := fun _ es => by
    cases es with
    | nil => exact va_nil
    | cons e r => exact pa_stuck
  o := fun _ _ => po_stuck
  f := fun _ _ => pts_stuck
  p := fun _ pos ks vs h1 h2 => by
    cases ks with
    | nil =>
      cases vs with
      | nil => exact .inl pps_nil
      | cons v vs => cases h2
    | cons q ks =>
      refine .inr ?_
      cases vs <;> simp [denP]
  i := fun _ _ _ => pi_stuck
section
variable {X : Cx} {W : Wd} {cx : Cxt} {k n : Nat}
theorem truth_of {e : Expr} {env : Env} (h : odd e = false) : ∀ whole, isTrue e env whole = (do let v ← whole; standAt e.pos; holding [v] (truthy v)) := by
  intro whole
  cases e <;> first | rfl | cases h | skip
  rename_i op x p
  cases op <;> first | rfl | cases h
theorem step_t (D : Den n) (O : Ok X W cx k) (e : Expr) : PT X e (tT W (denT (n + 1) cx e)) := by
  unfold denT
  split
  · exact vt_not (D.t O _)
  · exact (D.w O _ _ _).pt
  · split
    · rename_i h
      split
      · rename_i hb
        exact vt_cmp (cmp_ok O h) hb (D.e O _) (D.e O _)
      · exact pt_stuck
    · exact pt_stuck
  · split
    · rename_i h1 h2
      split
      · rename_i hb
        rw [Bool.and_eq_true, Bool.not_eq_true', Bool.not_eq_true'] at hb
        exact vt_chain (cmp_ok O h1) (cmp_ok O h2) (D.e O _) (D.e O _) (D.e O _) hb.1 hb.2
      · exact pt_stuck
    · exact pt_stuck
  · split
    · rename_i h
      exact vt_tru O.hK (D.e O _) (truth_of h)
    · exact pt_stuck
theorem step_w (D : Den n) (O : Ok X W cx k) (op : BoolOp) (vs : List Expr) (pos : Pos) : PW X (.BoolOp op vs pos) (tT W (denW (n + 1) cx op vs)) := by
  unfold denW
  split
  · cases op with
    | And => exact vw_and1 (D.t O _)
    | Or => exact vw_or1 (D.t O _)
  · exact vw_and (D.t O _) (D.w O _ _ _)
  · exact vw_or (D.t O _) (D.w O _ _ _)
  · exact pw_stuck
theorem step_b (D : Den n) (O : Ok X W cx k) (op : BoolOp) (vs : List Expr) (pos : Pos) : PE X (.BoolOp op vs pos) (tE W (denB (n + 1) cx op vs)) := by
  unfold denB
  split
  · exact pe_one (D.e O _)
  · exact ve_andV O.hK (D.e O _) (D.b O _ _ _)
  · exact ve_orV O.hK (D.e O _) (D.b O _ _ _)
  · exact pe_stuck
theorem step_a (D : Den n) (O : Ok X W cx k) (es : List Expr) : PA X es (tA W (denA (n + 1) cx es)) := by
  unfold denA
  split
  · exact va_nil
  · split
    · rename_i h
      exact va_cons h (D.e O _) (D.a O _)
    · exact pa_stuck
theorem step_o (D : Den n) (O : Ok X W cx k) (e : Option Expr) : PO X e (tO W (denO (n + 1) cx e)) := by
  unfold denO
  split
  · exact vo_none
  · exact vo_some (D.e O _)
theorem vts_nil : PTs X [] (tT W tYes) := ⟨fun pins s σ H Q I h => pts_nil.run pins s σ H Q I (by
  obtain ⟨σp, g, ads, v, g', hs, hg, hf, k⟩ := h
  obtain ⟨rfl, rfl⟩ := ret_some hf
  exact k _ _ _ .refl hg rfl)⟩
theorem step_f (D : Den n) (O : Ok X W cx k) (es : List Expr) : PTs X es (tT W (denIf (n + 1) cx es)) := by
  unfold denIf
  split
  · exact vts_nil
  · exact pts_one (D.t O _)
  · exact pts_stuck
theorem step_p (D : Den n) (O : Ok X W cx k) (pos : Pos) (ks : List (Option Expr)) (vs : List Expr) (h1 : ks.all (·.isSome) = true) (h2 : ks.length = vs.length) :
    PPs X pos ks vs ((denP (n + 1) cx ks vs).map fun q => (tE W q.1, tE W q.2)) ∨ (ME.stuck, ME.stuck) ∈ denP (n + 1) cx ks vs := by
  unfold denP
  split
  · rename_i q ks v vs
    rw [List.all_cons, Bool.and_eq_true] at h1
    rcases D.p O pos ks vs h1.2 (Nat.succ.inj h2) with h | h
    · exact .inl (pps_cons (D.e O _) (D.e O _) h)
    · exact .inr (List.mem_cons_of_mem _ h)
  · rename_i hn
    cases ks with
    | nil =>
      cases vs with
      | nil => exact .inl pps_nil
      | cons v vs => cases h2
    | cons q ks =>
      cases q with
      | none => cases h1
      | some q =>
        cases vs with
        | nil => cases h2
        | cons v vs => exact absurd rfl (hn _ _ _ _ rfl)
theorem step_i (D : Den n) (O : Ok X W cx k) (tg it : Expr) : PI X tg it (tI W (denI (n + 1) cx tg it)) := by
  unfold denI
  split
  · rename_i x p es pos
    split
    · rename_i hc
      rw [Bool.and_eq_true, Bool.and_eq_true] at hc
      obtain ⟨g1, g2, g3, g4⟩ := blt_of O hc.1.1
      have hs := hc.1.2
      split
      · split
        · rename_i hx
          subst hx
          exact vi_zip O.hK g1 g2 hs (D.e O _) (D.e O _)
        · exact pi_stuck
      · simp only [noStars, Bool.and_eq_true] at hs
        split
        · rename_i hx
          subst hx
          exact vi_enum O.hK g1 g2 hs.1 (D.e O _)
        · split
          · rename_i hx
            subst hx
            exact vi_rev O.hK g1 g2 hs.1 (D.e O _)
          · exact pi_stuck
      · simp only [noStars, Bool.and_eq_true] at hs
        split
        · rename_i hx
          subst hx
          exact vi_rev O.hK g1 g2 hs.1 (D.e O _)
        · split
          · rename_i hx
            subst hx
            exact vi_rng1 g1 g2 hs.1 (D.e O _)
          · exact pi_stuck
      · split
        · rename_i hx
          subst hx
          exact vi_rng2 g1 g2 hs (D.e O _) (D.e O _)
        · exact pi_stuck
      · split
        · rename_i hx
          subst hx
          refine vi_rngD g1 g2 hs (D.e O _) (D.e O _) ?_
          have h1 : ∀ (j : Nat) (p : Pos), PE X (.Constant (.int 1) j p) (tE W (eC (.int 1))) := fun _ _ => ve_const pe_int fun _ _ => mk_int _
          exact PE.imp (ve_un ok_neg (h1 _ _)) fun σ H Q q => q
        · exact pi_stuck
      · exact pi_stuck
    · exact vi_bs O.hK (D.e O _)
  · exact vi_bs O.hK (D.e O _)
end
end Vm
end

section
set_option maxRecDepth 100000
set_option maxHeartbeats 16000000
/-! VmL: the step for expressions. -/
namespace Vm
open PySem L2 PySem.Spec PyProof.Rows

theorem stuck_pairs : ∀ {ps : List (ME PV × ME PV)} {σp : Sl} {g g' : G} {kvs : List (Key × PV)}, (ME.stuck, ME.stuck) ∈ ps → ePairs ps σp g = some (.ok kvs g') → False
  | [], _, _, _, _, h, _ => by cases h
  | (a, b) :: r, σp, g, g', kvs, h, hf => by
    rcases List.mem_cons.mp h with e | e
    · cases e
      obtain ⟨x, g1, h1, hf⟩ := bind_some hf
      cases h1
    · obtain ⟨x, g1, h1, hf⟩ := bind_some hf
      obtain ⟨y, g2, h2, hf⟩ := bind_some hf
      obtain ⟨z, g3, h3, hf⟩ := bind_some hf
      exact stuck_pairs e h3
section
variable {X : Cx} {W : Wd} {cx : Cxt} {k n : Nat}
theorem denP_len (cx : Cxt) : ∀ (n : Nat) (ks : List (Option Expr)) (vs : List Expr), ks.all (·.isSome) = true → ks.length = vs.length → (ME.stuck, ME.stuck) ∈ denP n cx ks vs ∨ (denP n cx ks vs).length = ks.length
  | 0, [], [], _, _ => .inr rfl
  | 0, _ :: _, _ :: _, _, _ => .inl (by simp [denP])
  | n + 1, [], [], _, _ => .inr rfl
  | n + 1, some q :: ks, v :: vs, h1, h2 => by
    rw [List.all_cons, Bool.and_eq_true] at h1
    unfold denP
    rcases denP_len cx n ks vs h1.2 (Nat.succ.inj h2) with h | h
    · exact .inl (List.mem_cons_of_mem _ h)
    · exact .inr (by simp [h])
  | _ + 1, none :: _, _ :: _, h, _ => by cases h
theorem rel_local {X : Cx} {s : Shared} {H : Hp} {scope : Scope} {C : Addr} {cl : List (Str × Addr)} {fp : List Addr} {x : Str} (hsc : X.env.scope = cx.sc) (h : isLocal (relS scope cx.sc) x = true) :
    (X.blk s H scope (compEnvC scope cl C X.env) fp).env.scope.names.lookup x = some .local := by
  have e : (X.blk s H scope (compEnvC scope cl C X.env) fp).env.scope = relS scope cx.sc := by
    rw [← hsc]
    rfl
  rw [e]
  unfold isLocal at h
  split at h
  · assumption
  · cases h
theorem names_pgs {X : Cx} {cx : Cxt} {sc : Scope} (hN : X.N = cx.N) (nd : X.N.Nodup) (hl : ∀ x, isLocal sc x = true → X.env.scope.names.lookup x = some .local) : ∀ {es : List Expr} {l : List (Str × Nat)}, tgtOf.names cx sc es = some l →
    PGs X es (readNs (l.map (·.2))) ∧ (assignEach es X.env).length = l.length ∧ (assignEach es X.env).findIdx? (·.1) = none
  | [], l, h => by
    cases h
    exact ⟨pgs_nil, rfl, rfl⟩
  | .Name x p :: r, l, h => by
      unfold tgtOf.names at h
      split at h
      · rename_i hx
        split at h
        · rename_i i l' h1 h2
          cases h
          obtain ⟨q1, q2, q3⟩ := names_pgs hN nd hl h2
          have lx := hl x hx
          refine ⟨pgs_cons (pg_name nd (by rw [hN]; exact ixOf_get h1) (.inl lx) (.inr lx)) q1 rfl, ?_, ?_⟩
          · show (assignEach r X.env).length + 1 = l'.length + 1
            rw [q2]
          · show ((false, assign (.Name x p) X.env) :: assignEach r X.env).findIdx? (·.1) = none
            rw [List.findIdx?_cons]
            simp [q3]
        · cases h
      · cases h
theorem tgt_pg {X : Cx} {cx : Cxt} {sc : Scope} {tg : Expr} {t : Tgt} {own : List (Str × Nat)} (hN : X.N = cx.N) (nd : X.N.Nodup) (hc : X.calm = true) (hl : ∀ x, isLocal sc x = true → X.env.scope.names.lookup x = some .local) (h : tgtOf cx sc tg = some (t, own)) :
    PG X tg (t.read X.K) ∧ t.ix = own.map (·.2) := by
  unfold tgtOf at h
  split at h
  · split at h
    · rename_i hx
      split at h
      · rename_i i h1
        cases h
        have lx := hl _ hx
        exact ⟨pg_name nd (by rw [hN]; exact ixOf_get h1) (.inl lx) (.inr lx), rfl⟩
      · cases h
    · cases h
  · split at h
    · rename_i l0 h1
      cases h
      obtain ⟨q1, q2, q3⟩ := names_pgs hN nd hl h1
      refine ⟨?_, rfl⟩
      show PG X _ (L2.gTup X.K (own.map (·.2)).length (readNs (own.map (·.2))))
      exact pg_tup hc q1 (by rw [List.length_map]; exact q2) q3
    · cases h
  · cases h
theorem fn_ok (O : Ok X W cx k) {x : Str} {f : OpN} {a : Expr} {es : List Expr} {fs : ME (List PV)} {p pos : Pos} (h : fnF x = some f) (hg : Gl X x) (hm : X.mg x = none) (hs : noStars (a :: es) = true) (ha : PA X (a :: es) (tA W fs)) :
    PE X (.Call (.Name x p) (a :: es) [] pos) (tE W (eFn f fs)) := by
  unfold fnF at h
  repeat' split at h
  · cases h; rename_i e; subst e
    exact ve_fnB (fk_len O.hK) hg hm (by decide +kernel) (by decide) (by decide) hs ha
  · cases h; rename_i e; subst e
    exact ve_fnT fk_int hg hm (by decide +kernel) (by decide) (by decide) hs ha
  · cases h; rename_i e; subst e
    exact ve_fnB (fk_sum O.hK O.calm) hg hm (by decide +kernel) (by decide) (by decide) hs ha
  · cases h; rename_i e; subst e
    exact ve_fnB (fk_min O.calm) hg hm (by decide +kernel) (by decide) (by decide) hs ha
  · cases h; rename_i e; subst e
    exact ve_fnB (fk_max O.calm) hg hm (by decide +kernel) (by decide) (by decide) hs ha
  · cases h; rename_i e; subst e
    exact ve_fnB (fk_all O.hK O.calm) hg hm (by decide +kernel) (by decide) (by decide) hs ha
  · cases h; rename_i e; subst e
    exact ve_fnB (fk_any O.hK O.calm) hg hm (by decide +kernel) (by decide) (by decide) hs ha
  · cases h; rename_i e; subst e
    exact ve_fnT (fk_tuple O.hK) hg hm (by decide +kernel) (by decide) (by decide) hs ha
  · cases h; rename_i e; subst e
    exact ve_fnT (fk_list O.hK) hg hm (by decide +kernel) (by decide) (by decide) hs ha
  · cases h; rename_i e; subst e
    exact ve_fnT fk_dict hg hm (by decide +kernel) (by decide) (by decide) hs ha
  · cases h
theorem mt_ok (O : Ok X W cx k) {m : Str} {okp : PV → G → Bool} {f : OpN} {o : Expr} {es : List Expr} {fo : ME PV} {fs : ME (List PV)} {apos cpos : Pos} (h : mtF m = some (okp, f))
    (ho : PE X o (tE W fo)) (ha : PA X es (tA W fs)) (hb : okBase o = true) (hline : (apos.endLine == cpos.line) = true) (hs : noStars es = true) (hl : es.length < 29) (h0 : es = [] → fs = eNil) :
    PE X (.Call (.Attribute o m apos) es [] cpos) (tE W (eMt okp f fo fs)) := by
  unfold mtF at h
  repeat' split at h
  · cases h; rename_i e; subst e
    exact ve_mt PySem.F.plainAttrs_list PySem.F.slot_list_append PySem.F.type_list_append mk_append rcv_l ho ha hb hline hs hl h0
  · cases h; rename_i e; subst e
    exact ve_mt PySem.F.plainAttrs_list PySem.F.slot_list_extend PySem.F.type_list_extend mk_extend rcv_l ho ha hb hline hs hl h0
  · cases h; rename_i e; subst e
    exact ve_mt PySem.F.plainAttrs_list PySem.F.slot_list_pop PySem.F.type_list_pop mk_pop rcv_l ho ha hb hline hs hl h0
  · cases h; rename_i e; subst e
    exact ve_mt PySem.F.plainAttrs_dict PySem.F.slot_dict_get PySem.F.type_dict_get (mk_get O.hK O.hw O.u1) (rcv_d O.hK O.hw) ho ha hb hline hs hl h0
  · cases h
theorem room2 (O : Ok X W cx k) : Room (2 * k) X.A := O.room.mono (by omega)
theorem ty_ok (O : Ok X W cx k) {t : String} {y : Str} {a : Expr} {fa : ME PV} {p p2 pos : Pos} (ht : t ∈ tyNames) (hb : bootBuiltins y = some (.type t)) (h1 : Gl X "isinstance") (h2 : X.mg "isinstance" = none) (h3 : bltB cx y = true)
    (hs : noStar a = true) (ha : PE X a (tE W fa)) : PE X (.Call (.Name "isinstance" p) [a, .Name y p2] [] pos) (tE W (eIsTy [t] fa)) := by
  obtain ⟨q1, q2, q3, q4⟩ := blt_of O h3
  exact ve_isTy O.hK ht h1 h2 q1 q2 hb q4 q3 hs ha
theorem ve_lc (D : Den n) (O : Ok X W cx k) {elt tg it : Expr} {ifs : List Expr} {scope : Scope} {pos : Pos} {t : Tgt} {own : List (Str × Nat)} (ht : tgtOf cx (relS scope cx.sc) tg = some (t, own)) (hb : blkC cx.N cx.sc scope own = true) (hs : noSet it = true) :
    PE X (.ListComp elt [⟨tg, it, ifs, 0⟩] scope pos) (tE W (eComp (denI n cx tg it) (own.map (·.2)) t.sem (denIf n (inner cx scope) ifs) (denE n (inner cx scope) elt))) := by
  have key : ∀ (s : Shared) (H : Hp) (C : Addr) (cl : List (Str × Addr)) (fp : List Addr), PG (X.blk s H scope (compEnvC scope cl C X.env) fp) tg (t.read X.K) ∧ t.ix = own.map (·.2) := fun s H C cl fp =>
    tgt_pg (X := X.blk s H scope (compEnvC scope cl C X.env) fp) O.hN O.nd O.calm (fun x hx => rel_local O.sc hx) ht
  have hix : t.ix = own.map (·.2) := by
    unfold tgtOf at ht
    split at ht
    · split at ht
      · split at ht
        · cases ht; rfl
        · cases ht
      · cases ht
    · split at ht
      · cases ht; rfl
      · cases ht
    · cases ht
  have p := pe_lc (pos := pos) O.calm O.nd (D.i O tg it) (blkOk_by (by rw [O.hN, O.sc]; exact hb)) (fun s H C cl fp => (key s H C cl fp).1) (fun s H C cl fp => D.f (O.blk (own := own) s H C cl fp) ifs) (fun s H C cl fp => D.e (O.blk (own := own) s H C cl fp) elt) (folded_eq hs)
  rw [← O.hK] at p
  exact PE.imp p (lc_read fun i hi => by rw [← hix]; exact hi)
theorem step_e (D : Den n) (O : Ok X W cx k) (e : Expr) : PE X e (tE W (denE (n + 1) cx e)) := by
  unfold denE
  split
  · exact ve_const pe_int fun _ _ => mk_int _
  · exact ve_const pe_bl fun _ _ => mk_bl _
  · exact ve_const pe_non fun _ _ => mk_non
  · exact ve_const pe_str fun _ _ => mk_str _
  · split
    · rename_i i h
      unfold slotOf at h
      split at h
      · rename_i hc
        rw [Bool.and_eq_true] at hc
        obtain ⟨q1, q2, q3⟩ := okNm_of hc.2
        exact ve_var (by rw [O.hN]; exact ixOf_get h) (vis_of O hc.1) q1 q2
      · cases h
    · split
      · rename_i hc
        rw [Bool.and_eq_true] at hc
        split
        · rename_i v hv
          obtain ⟨q1, q2, q3⟩ := okNm_of hc.2
          obtain ⟨u, v', m1, m2, m3⟩ := O.val _ _ hv
          exact ve_const (pe_glob (gl_of O hc.1) m1 m2 q1) m3
        · exact pe_stuck
      · exact pe_stuck
  · split
    · rename_i h
      exact ve_op2 (bin_ok O h) (D.e O _) (D.e O _)
    · exact pe_stuck
  · exact ve_un ok_neg (D.e O _)
  · exact ve_notV O.hK (D.e O _)
  · exact D.b O _ _ _
  · exact ve_if (D.t O _) (D.e O _) (D.e O _)
  · split
    · rename_i h
      split
      · rename_i hb
        exact ve_cmp (cmp_ok O h) hb (D.e O _) (D.e O _)
      · exact pe_stuck
    · exact pe_stuck
  · split
    · rename_i h1 h2
      split
      · rename_i hb
        rw [Bool.and_eq_true, Bool.not_eq_true', Bool.not_eq_true'] at hb
        exact ve_chain (cmp_ok O h1) (cmp_ok O h2) (D.e O _) (D.e O _) (D.e O _) hb.1 hb.2
      · exact pe_stuck
    · exact pe_stuck
  · split
    · rename_i h
      rw [Bool.and_eq_true] at h
      exact ve_attr h.2 (O.at_ _ (by rw [← O.attr]; exact h.1)) O.cl (D.e O _)
    · exact pe_stuck
  · exact ve_sl O.hK (D.e O _) (D.o O _) (D.o O _)
  · split
    · rename_i h
      exact ve_ix O.hK O.hw O.u1 h (D.e O _) (D.e O _)
    · exact pe_stuck
  · split
    · exact ve_tup (D.a O _)
    · exact pe_stuck
  · split
    · exact ve_lst (D.a O _)
    · exact pe_stuck
  · exact ve_dct0
  · split
    · rename_i q ks v vs pos h
      simp only [Bool.and_eq_true, decide_eq_true_eq] at h
      obtain ⟨⟨h1, h2⟩, h3⟩ := h
      have stk : (ME.stuck, ME.stuck) ∈ denP n cx (some q :: ks) (v :: vs) → PE X (.Dict (some q :: ks) (v :: vs) pos) (tE W (eDct (denP n cx (some q :: ks) (v :: vs)))) := by
        intro hp
        refine ⟨fun pins s σ H Q I ⟨σp, g, ads, v, g', hsl, hg, hf, k⟩ => ?_⟩
        unfold eDct at hf
        split at hf
        · rename_i kvs g1 h1
          exact (stuck_pairs hp h1).elim
        · cases hf
        · cases hf
      rcases D.p O pos _ _ h1 h2 with hp | hp
      · rcases denP_len cx n _ _ h1 h2 with hst | hst
        · exact stk hst
        · exact ve_dct hp h1 h2 (by simp) h3 hst
      · exact stk hp
    · exact pe_stuck
  · split
    · rename_i ht
      split
      · rename_i hc
        rw [Bool.and_eq_true] at hc
        exact ve_lc D O ht hc.1 hc.2
      · exact pe_stuck
    · exact pe_stuck
  · split
    · rename_i hc
      rw [Bool.and_eq_true, Bool.and_eq_true] at hc
      obtain ⟨⟨c1, c2⟩, c3⟩ := hc
      obtain ⟨q1, q2, q3⟩ := okNm_of c2
      have hg := gl_of O c1
      split
      · rename_i nm h
        obtain ⟨f, m1, m2⟩ := O.fns _ _ h
        exact ve_call m2 (room2 O) hg m1 q1 c3 (D.a O _) fun e => denA_h0 e
      · rename_i c h
        obtain ⟨C, f, m1, m2, m3, m4⟩ := O.clss _ _ h
        exact ve_new m2 m3 m4 O.room hg m1 q1 c3 (D.a O _) fun e => denA_h0 e
      · exact pe_stuck
      · split
        · rename_i hb
          have hm := O.blt _ hb
          split
          · rename_i h
            exact fn_ok O h hg hm c3 (D.a O _)
          · split
            · rename_i h
              rw [Bool.and_eq_true, Bool.and_eq_true, decide_eq_true_eq] at h
              obtain ⟨⟨rfl, h2⟩, h3⟩ := h
              repeat' split
              all_goals first | exact pe_stuck | exact ty_ok O (by decide) (by rename_i hy; rw [hy]; decide +kernel) hg hm h2 h3 (D.e O _)
            · exact pe_stuck
          · exact pe_stuck
        · exact pe_stuck
    · exact pe_stuck
  · split
    · rename_i hc
      rw [Bool.and_eq_true, Bool.and_eq_true, Bool.and_eq_true, decide_eq_true_eq] at hc
      obtain ⟨⟨⟨c1, c2⟩, c3⟩, c4⟩ := hc
      split
      · rename_i h
        exact mt_ok O h (D.e O _) (D.a O _) c1 c2 c3 c4 fun e => denA_h0 e
      · split
        · rename_i h
          exact ve_meth (fun c C xs g r h1 h2 => O.mth c C _ xs g r h1 h2) O.cl (by rw [← O.attr]; exact h) (room2 O) c1 c2 c3 c4 (D.e O _) (D.a O _) fun e => denA_h0 e
        · exact pe_stuck
    · exact pe_stuck
  · exact pe_stuck
theorem den_step (D : Den n) : Den (n + 1) where
  e := fun O e => step_e D O e
  t := fun O e => step_t D O e
  w := fun O op vs pos => step_w D O op vs pos
  b := fun O op vs pos => step_b D O op vs pos
  a := fun O es => step_a D O es
  o := fun O e => step_o D O e
  f := fun O es => step_f D O es
  p := fun O pos ks vs h1 h2 => step_p D O pos ks vs h1 h2
  i := fun O tg it => step_i D O tg it
end
theorem den_all : ∀ n, Den n
  | 0 => den0
  | n + 1 => den_step (den_all n)
end Vm
end

section
set_option maxRecDepth 100000
set_option maxHeartbeats 16000000
/-! VmM: what a statement means, and that the model does it. -/
namespace Vm
open PySem L2 PySem.Spec PyProof.Rows

def noTup : Expr → Bool
  | .Tuple _ _ _ => false
  | _ => true
def fnKind (sc : Scope) : Bool := match sc.kind with
  | .function => true
  | _ => false
def swB (cx : Cxt) (y : Str) (py : Pos) (scope : Scope) (pos : Pos) : Bool := isLocal cx.sc y && (py.line == pos.line) && !(scope.names.any fun (n, k) => n == y && (k == .local || k == .cell))
def stk : MG := fun _ _ _ => none
def stks : MGs := fun _ _ _ => none
mutual
def denG : Nat → Cxt → Expr → MG
  | 0, _, _ => stk
  | n + 1, cx, e => match e with
    | .Name x _ => (match storeOf cx x with
      | some i => gName i
      | none => stk)
    | .Tuple es _ _ => if noStars es = true then gTup (denGs n cx es) else stk
    | .Subscript a b _ => if noSlice b = true then gSub (denE n cx a) (denE n cx b) else stk
    | _ => stk
termination_by structural n => n
def denGs : Nat → Cxt → List Expr → MGs
  | 0, _, _ => stks
  | n + 1, cx, es => match es with
    | [] => gNil
    | a :: r => gCons (denG n cx a) (denGs n cx r)
termination_by structural n => n
end
mutual
def denS : Nat → Cxt → Stmt → MS
  | 0, _, _ => sStuck
  | n + 1, cx, st => match st with
    | .Expr e _ => if noComp e = true then sExpr (denE n cx e) else sStuck
    | .Return (some e) _ => sRet (denE n cx e)
    | .Return none _ => sRetN
    | .Pass _ => sNext
    | .Break _ => sBk
    | .Continue _ => sCt
    | .If c a b _ => sIf (denT n cx c) (denSs n cx a) (denSs n cx b)
    | .For tg it body [] _ => if noSet it = true then sFor (denI n cx tg it) (denG n cx tg) (denSs n cx body) else sStuck
    | .While c body [] _ => sWhile (denT n cx c) (denSs n cx body)
    | .Try body (_ :: _) [] [] _ => sTry0 (denSs n cx body)
    | .Assign [.Name x py] e _ => (match storeOf cx x with
      | some i => if noComp e = true then sAsg (gName i) (denE n cx e) else (match n, e with
        | n + 1, .ListComp elt [⟨tg, it, ifs, 0⟩] scope pos => if fnKind cx.sc = true then sAsg (gName i) (denE (n + 1) cx (.ListComp elt [⟨tg, it, ifs, 0⟩] scope pos)) else sStuck
        | _, _ => sStuck)
      | none => sStuck)
    | .Assign [.Attribute o f _] e _ => if cx.attr f = true then sAsg (gAttr f (denE n cx o)) (denE n cx e) else sStuck
    | .Assign [.Subscript a b p] e _ => if noComp e = true then sAsg (denG n cx (.Subscript a b p)) (denE n cx e) else sStuck
    | .Assign [.Tuple ts a p] e _ => if (noComp e && noTup e) = true then sAsg (denG n cx (.Tuple ts a p)) (denE n cx e) else sStuck
    | .AugAssign (.Attribute o f _) op e _ => (match augF op with
      | some h => if cx.attr f = true then sAugA f h (denE n cx o) (denE n cx e) else sStuck
      | none => sStuck)
    | _ => sStuck
termination_by structural n => n
def denSs : Nat → Cxt → List Stmt → MS
  | 0, _, _ => sStuck
  | n + 1, cx, sts => match sts with
    | [] => sNext
    | st :: r => sSeq (denS n cx st) (denSs n cx r)
termination_by structural n => n
end
theorem pg_stuck {X : Cx} {W : Wd} {e : Expr} : PG X e (tG W stk) := ⟨fun _ _ _ _ _ _ _ _ _ h => by
  obtain ⟨_, _, _, _, _, _, _, _, _, h, _⟩ := h
  cases h⟩
theorem pgs_stuck {X : Cx} {W : Wd} {e : List Expr} : PGs X e (tGs W stks) := ⟨fun _ _ _ _ _ _ _ _ _ h => by
  obtain ⟨_, _, _, _, _, _, _, _, _, h, _⟩ := h
  cases h⟩
theorem pss_stuck {X : Cx} {W : Wd} {e : List Stmt} : PSs X e (tS W sStuck) := ⟨fun _ _ _ _ _ _ h => by
  obtain ⟨_, _, _, _, _, _, h, _⟩ := h
  cases h⟩
structure DenG (n : Nat) : Prop where
  g : ∀ {X : Cx} {W : Wd} {cx : Cxt} {k : Nat}, Ok X W cx k → ∀ e, PG X e (tG W (denG n cx e))
  gs : ∀ {X : Cx} {W : Wd} {cx : Cxt} {k : Nat}, Ok X W cx k → ∀ es, noStars es = true → PGs X es (tGs W (denGs n cx es)) ∧ ∀ ps σ g r, denGs n cx es ps σ g = some r → ps.length = es.length
theorem denG_step {n : Nat} (D : DenG n) : DenG (n + 1) where
  g := fun {X W cx k} O e => by
    unfold denG
    split
    · split
      · rename_i h
        obtain ⟨h1, h2, h3⟩ := store_of O h
        exact vg_name O.nd h1 h2 h3
      · exact pg_stuck
    · split
      · rename_i h
        obtain ⟨q1, q2⟩ := D.gs O _ h
        exact vg_tup O.calm h q2 q1
      · exact pg_stuck
    · split
      · rename_i h
        exact vg_sub O.u1 h ((den_all n).e O _) ((den_all n).e O _)
      · exact pg_stuck
    · exact pg_stuck
  gs := fun {X W cx k} O es h => by
    unfold denGs
    split
    · refine ⟨vgs_nil, fun ps σ g r hf => ?_⟩
      unfold Vm.gNil at hf
      split at hf
      · rfl
      · cases hf
    · unfold noStars at h
      rw [Bool.and_eq_true] at h
      obtain ⟨q1, q2⟩ := D.gs O _ h.2
      exact ⟨vgs_cons h.1 (D.g O _) q1, gs_len (a := .Name "" default) (es := _) q2⟩
theorem denG_all : ∀ n, DenG n
  | 0 => ⟨fun _ _ => pg_stuck, fun _ es _ => ⟨pgs_stuck, fun _ _ _ _ h => nomatch h⟩⟩
  | n + 1 => denG_step (denG_all n)
structure DenS (n : Nat) : Prop where
  s : ∀ {X : Cx} {W : Wd} {cx : Cxt} {k : Nat}, Ok X W cx k → ∀ e, PS X e (tS W (denS n cx e))
  ss : ∀ {X : Cx} {W : Wd} {cx : Cxt} {k : Nat}, Ok X W cx k → ∀ es, PSs X es (tS W (denSs n cx es))
section
variable {X : Cx} {W : Wd} {cx : Cxt} {k n : Nat}
theorem vs_setLc (O : Ok X W cx k) {i : Nat} {y : Str} {py pos spos : Pos} {elt tg it : Expr} {ifs : List Expr} {scope : Scope} (hy : storeOf cx y = some i) (hk : fnKind cx.sc = true) :
    PS X (.Assign [.Name y py] (.ListComp elt [⟨tg, it, ifs, 0⟩] scope pos) spos) (tS W (sAsg (gName i) (denE (n + 1) cx (.ListComp elt [⟨tg, it, ifs, 0⟩] scope pos)))) := by
  obtain ⟨h1, h2, h3⟩ := store_of O hy
  have kf : X.env.scope.kind = .function := by
    rw [O.sc]
    unfold fnKind at hk
    split at hk
    · assumption
    · cases hk
  have hb : X.env.blockKind = .function := by unfold Env.blockKind; rw [kf]; rfl
  by_cases hs : swB cx y py scope pos = true
  · have D := den_all n
    rw [show denE (n + 1) cx (.ListComp elt [⟨tg, it, ifs, 0⟩] scope pos) = (match tgtOf cx (relS scope cx.sc) tg with
      | some (t, own) => if (blkC cx.N cx.sc scope own && noSet it) = true then eComp (denI n cx tg it) (own.map (·.2)) t.sem (denIf n (inner cx scope) ifs) (denE n (inner cx scope) elt) else ME.stuck
      | none => ME.stuck) from rfl]
    split
    · rename_i t own ht
      split
      · rename_i hc
        rw [Bool.and_eq_true] at hc
        unfold swB at hs
        rw [Bool.and_eq_true, Bool.and_eq_true, Bool.not_eq_true'] at hs
        have ly := loc_of O hs.1.1
        have hix : t.ix = own.map (·.2) := by
          unfold tgtOf at ht
          split at ht
          · split at ht
            · split at ht
              · cases ht; rfl
              · cases ht
            · cases ht
          · split at ht
            · cases ht; rfl
            · cases ht
          · cases ht
        have p := ps_setLc (pos := pos) (spos := spos) (py := py) O.calm O.nd h1 ly (sw_true kf ly hs.1.2 hs.2) (D.i O tg it) (blkOk_by (by rw [O.hN, O.sc]; exact hc.1))
          (g := t.read X.K) (fun s H C cl fp => (tgt_pg (X := X.blk s H scope (compEnvC scope cl C X.env) fp) O.hN O.nd O.calm (fun x hx => rel_local O.sc hx) ht).1) (fun s H C cl fp => D.f (O.blk (own := own) s H C cl fp) ifs) (fun s H C cl fp => D.e (O.blk (own := own) s H C cl fp) elt) (folded_eq hc.2)
        rw [← O.hK] at p
        exact PS.imp p (asg_read (lc_read fun i hi => by rw [← hix]; exact hi) gname_read)
      · refine PS.imp (ps_stuck (W := W)) fun Dd σ H ⟨σp, g, ads, r, hsl, hg, hf, k⟩ => ?_
        cases hf
    · refine PS.imp (ps_stuck (W := W)) fun Dd σ H ⟨σp, g, ads, r, hsl, hg, hf, k⟩ => ?_
      cases hf
  · refine vs_set O.nd h1 h2 h3 ?_ ((den_all (n + 1)).e O _)
    have hs' : swB cx y py scope pos = false := by simpa using hs
    unfold swB at hs'
    unfold swapsWith
    simp only [hb, Expr.pos]
    unfold isLocal at hs'
    rw [← O.sc] at hs'
    show pure _ = pure _
    congr 1
    show ((_ && (X.env.scope.names.lookup y == some .local)) && _ && _) = false
    cases hl : X.env.scope.names.lookup y with
    | none => rfl
    | some kd =>
      rw [hl] at hs'
      cases kd <;> first | rfl | skip
      simpa using hs'
theorem denS_step (D : DenS n) : DenS (n + 1) where
  s := fun {X W cx k} O st => by
    have E := den_all n
    unfold denS
    split
    · split
      · rename_i h
        exact vs_expr h (E.e O _)
      · exact ps_stuck
    · exact vs_ret (E.e O _)
    · exact vs_retN
    · exact vs_pass
    · exact vs_break
    · exact vs_cont
    · exact vs_if (E.t O _) (D.ss O _) (D.ss O _)
    · split
      · rename_i h
        exact vs_for O.po O.calm (E.i O _ _) ((denG_all n).g O _) (D.ss O _) h
      · exact ps_stuck
    · exact vs_while O.po (E.t O _) (D.ss O _)
    · exact vs_try (D.ss O.nox _)
    · split
      · rename_i i hi
        split
        · rename_i h
          obtain ⟨h1, h2, h3⟩ := store_of O hi
          exact vs_set O.nd h1 h2 h3 (swaps_no h) (E.e O _)
        · split
          · split
            · rename_i hk
              exact vs_setLc O hi hk
            · exact ps_stuck
          · exact ps_stuck
      · exact ps_stuck
    · split
      · rename_i o f p e pos h
        have h' : W.isAttr f = true := by rw [← O.attr]; exact h
        exact vs_fld (by cases e <;> rfl) h' (O.at_ _ h') O.cl (E.e O _) (E.e O _)
      · exact ps_stuck
    · split
      · rename_i h
        exact vs_asgS h (E.e O _) ((denG_all n).g O _)
      · exact ps_stuck
    · split
      · rename_i ts a p e pos h
        rw [Bool.and_eq_true] at h
        exact vs_asgT h.1 (by cases e <;> first | rfl | exact absurd h.2 Bool.false_ne_true) (E.e O _) ((denG_all n).g O _)
      · exact ps_stuck
    · split
      · rename_i hop
        split
        · rename_i h
          have h' := h
          rw [O.attr] at h'
          exact vs_aug (aug_ok hop) h' (O.at_ _ h') O.cl (E.e O _) (E.e O _)
        · exact ps_stuck
      · exact ps_stuck
    · exact ps_stuck
  ss := fun {X W cx k} O es => by
    unfold denSs
    split
    · exact vss_nil
    · exact vss_cons (D.s O _) (D.ss O _)
end
theorem denS_all : ∀ n, DenS n
  | 0 => ⟨fun _ _ => ps_stuck, fun _ _ => pss_stuck⟩
  | n + 1 => denS_step (denS_all n)
end Vm
end

section
set_option maxRecDepth 100000
set_option maxHeartbeats 8000000
/-! VmN: the table of defs keeps its promise. -/
namespace Vm
open PySem L2 PySem.Spec PyProof.Rows

structure DefD where
  nm : FName
  x : Str
  qual : Str
  st : Stmt
  N : List Str
  ps : List Str
  body : CallT → MS
structure Glb where
  glob : Str → Option Gb
  blt : Str → Bool
  attr : Str → Bool
def cxD (G : Glb) (d : DefD) (call : CallT) : Cxt := { N := d.N, sc := defScope d.st, call := call, glob := G.glob, blt := G.blt, attr := G.attr, isDef := true }
def DefD.fd (d : DefD) : FDef := ⟨d.ps.length, d.N.length, d.body⟩
def tabOf (tbl : List DefD) (nm : FName) : Option DefD := tbl.find? fun d => decide (d.nm = nm)
def tabF (tbl : List DefD) (nm : FName) : Option FDef := (tabOf tbl nm).map DefD.fd
structure DefOk (G : Glb) (d : DefD) : Prop where
  sc : FnScope d.N d.ps (defScope d.st)
  den : ∀ call, denSs 60 (cxD G d call) (defBody d.st) = d.body call
structure Facts (w : World) (K : PySem.W.Frag) (mg : Str → Option Value) (W : Wd) (G : Glb) (tbl : List DefD) (fa : FName → Option Addr) : Prop where
  hK : W.K = K
  hw : W.w = w
  attr : G.attr = W.isAttr
  defs : ∀ d ∈ tbl, ∃ f fd, fa d.nm = some f ∧ Fun K d.x d.qual d.st f fd ∧ Binds K fd d.ps []
  den : ∀ d ∈ tbl, DefOk G d
  val : ∀ x v, G.glob x = some (.val v) → ∃ u v', mg x = some u ∧ RelV v' u ∧ ∀ H ads, RV W H ads v v'
  fns : ∀ x nm, G.glob x = some (.fn nm) → ∃ f, mg x = some (.ref f) ∧ fa nm = some f ∧ tabOf tbl nm ≠ none
  clss : ∀ x c, G.glob x = some (.cls c) → ∃ C f, mg x = some (.ref C) ∧ W.cls c = some C ∧ Mk K C f ∧ fa (c, "__init__") = some f ∧ tabOf tbl (c, "__init__") ≠ none
  mth : ∀ c C m, W.cls c = some C → tabOf tbl (c, m) ≠ none → ∃ f, Meth K C m f ∧ fa (c, m) = some f
  cl : ∀ c C, W.cls c = some C → Cls K C
  at_ : ∀ f, W.isAttr f = true → ∀ c C, W.cls c = some C → NoAttr K C f
  blt : ∀ x, G.blt x = true → mg x = none
theorem tabOf_mem {tbl : List DefD} {nm : FName} {d : DefD} (h : tabOf tbl nm = some d) : d ∈ tbl ∧ d.nm = nm := ⟨List.mem_of_find?_eq_some h, by simpa using List.find?_some h⟩
theorem callF_tab {tbl : List DefD} {nm : FName} {k : Nat} {xs : List PV} {g : G} {r : RE PV} (h : callF (tabF tbl) k nm xs g = some r) : ∃ d, tabOf tbl nm = some d := by
  cases k with
  | zero => cases h
  | succ k =>
    unfold callF tabF at h
    cases e : tabOf tbl nm with
    | none => rw [e] at h; cases h
    | some d => exact ⟨d, rfl⟩
structure FnAt0 (P : Program) (w : World) (K : PySem.W.Frag) (mg : Str → Option Value) (base : Heap) (W : Wd) (k : Nat) (call : CallT) (nm : FName) (f : Addr) : Prop where
  kp : PySem.W.keepIn K (.ref f) = true
  ok : ∃ fd ps, FnOk P w K mg base CX0 k f fd ps (spF W call nm) ∧ Binds K fd ps []
theorem startP_sl {W : Wd} {H : Hp} {ads : List Addr} {args : List PV} {vs : List V} {N : List Str} (h : RVs W H ads args vs) : RSl W H ads (startP N.length args) (L2.start N vs) := by
  have hl := h.length
  unfold startP L2.start
  refine ⟨by simp [hl], fun i p e => ?_⟩
  by_cases hi : i < args.length
  · rw [List.getElem?_append_left (by simpa using hi), List.getElem?_map] at e
    cases ea : args[i]? with
    | none => rw [ea] at e; cases e
    | some q =>
      rw [ea] at e
      cases e
      obtain ⟨v, e1, e2⟩ := h.get ea
      refine ⟨v, ?_, e2⟩
      rw [List.getElem?_append_left (by simpa [hl] using hi), List.getElem?_map, e1]
      rfl
  · rw [List.getElem?_append_right (by simpa using hi), List.getElem?_replicate] at e
    split at e <;> cases e
section
variable {P : Program} {w : World} {K : PySem.W.Frag} {mg : Str → Option Value} {base : Heap} {W : Wd} {G : Glb} {tbl : List DefD} {fa : FName → Option Addr}
theorem tab_fn (F : Facts w K mg W G tbl fa) : ∀ (k : Nat) (nm : FName) (d : DefD) (f : Addr) (fd : FuncData), tabOf tbl nm = some d → Fun K d.x d.qual d.st f fd → FnOk P w K mg base CX0 (2 * k) f fd d.ps (spF W (callF (tabF tbl) k) nm)
  | 0, nm, d, f, fd, hd, h2 => by
    refine ⟨fun vs H Q E h => ?_, fun A outer s H args us vs Q E _ _ _ _ h => ?_⟩
    · obtain ⟨_, _, _, _, _, _, _, h, _⟩ := h
      cases h
    · obtain ⟨_, _, _, _, _, _, _, h, _⟩ := h
      cases h
  | k + 1, nm, d, f, fd, hd, h2 => by
    obtain ⟨hm, rfl⟩ := tabOf_mem hd
    have D := F.den d hm
    have step : ∀ {args : List PV} {g g' : Vm.G} {v : PV}, callF (tabF tbl) (k + 1) d.nm args g = some (.ok v g') → args.length = d.ps.length ∧ runBody (d.body (callF (tabF tbl) k) (startP d.N.length args) g) = some (.ok v g') := by
      intro args g g' v h
      unfold callF tabF at h
      rw [hd] at h
      have h : (if args.length = d.ps.length then runBody (d.body (callF (tabF tbl) k) (startP d.N.length args) g) else none) = some (.ok v g') := h
      split at h
      · rename_i e
        exact ⟨e, h⟩
      · cases h
    refine h2.ok (k := 2 * k + 1) D.sc (fun vs H Q E h => ?_) fun cdv A outer s H vs Q E hr h => ?_
    · obtain ⟨args, g, ads, v, g', hg, ha, hc, hk⟩ := h
      rw [ha.length]
      exact (step hc).1
    · obtain ⟨args, g, ads, v, g', hg, ha, hc, hk⟩ := h
      obtain ⟨e1, e2⟩ := step hc
      have ih : ∀ (nm : FName) (d : DefD) (f : Addr), tabOf tbl nm = some d → fa nm = some f → FnAt0 P w K mg base W (2 * k) (callF (tabF tbl) k) nm f := fun nm d f e1 e2 => by
        obtain ⟨hm, rfl⟩ := tabOf_mem e1
        obtain ⟨f', fd, q1, q2, q3⟩ := F.defs d hm
        rw [q1] at e2
        cases e2
        exact ⟨q2.kp, fd, d.ps, tab_fn F k _ d _ fd e1 q2, q3⟩
      have O : Vm.Ok (cxOf CX0 P w K mg base d.N d.qual (defScope d.st) f cdv A outer s H E).nox W (cxD G d (callF (tabF tbl) k)) k := {
        hK := F.hK
        hw := F.hw
        hN := rfl
        nd := D.sc.nd
        sc := rfl
        calm := rfl
        room := hr
        fn := fun _ _ => rfl
        attr := F.attr
        val := F.val
        fns := fun x nm h => by
          obtain ⟨f, m1, m2, m3⟩ := F.fns x nm h
          cases e : tabOf tbl nm with
          | none => exact absurd e m3
          | some d' =>
            have q := ih nm d' f e m2
            exact ⟨f, m1, q.kp, q.ok⟩
        clss := fun x c h => by
          obtain ⟨C, f, m1, m2, m3, m4, m5⟩ := F.clss x c h
          cases e : tabOf tbl (c, "__init__") with
          | none => exact absurd e m5
          | some d' =>
            have q := ih _ d' f e m4
            exact ⟨C, f, m1, m2, m3, q.kp, q.ok⟩
        mth := fun c C m xs g r h1 h2 => by
          obtain ⟨d', e⟩ := callF_tab h2
          obtain ⟨f, m1, m2⟩ := F.mth c C m h1 (by rw [e]; simp)
          have q := ih _ d' f e m2
          exact ⟨f, m1, q.kp, q.ok⟩
        cl := F.cl
        at_ := F.at_
        blt := F.blt
        po := PassesOwn.never }
      have hb := (denS_all 60).ss O (defBody d.st)
      rw [D.den] at hb
      refine ⟨_, hb, ?_⟩
      have hsl := startP_sl (N := d.N) ha
      unfold runBody at e2
      split at e2
      · rename_i σ2 g2 e3
        cases e2
        exact ⟨_, g, ads, _, hsl, hg, e3, fun σ' H' ads' ex rg rs => hk _ _ _ ex rg mk_non⟩
      · rename_i v2 g2 e3
        cases e2
        exact ⟨_, g, ads, _, hsl, hg, e3, fun v' H' ads' ex rg rv => hk _ _ _ ex rg rv⟩
      · cases e2
      · cases e2
end
end Vm
end

section
set_option maxRecDepth 100000
set_option maxHeartbeats 8000000
/-! VmO: the module's dicts, the law's end. -/
namespace Vm
open PySem L2 PySem.Spec PyProof.Rows

def sdE (e : DictEntry) : Option (Str × Int × Str) := match e.key, e.val with
  | .str x _, .str y _ => some (x, e.hash, y)
  | _, _ => none
def sdW (K : PySem.W.Frag) (a : Addr) : Option (List (Option (Str × Int × Str))) := match K.lookup a with
  | some ⟨.type c, none, .dict es _, sl⟩ => (match decide (c = "dict") && (sl.isEmpty && !(a == sysModules)) with
    | true => some (es.toList.map sdE)
    | false => none)
  | _ => none
theorem sd_lit {P : Params} : ∀ {l : List DictEntry} {ks : List (Str × Str)}, l.map sdE = ks.map (fun q => some (q.1, PyData.keyHash P q.1, q.2)) → PySem.W.KeysLit P l ∧ (∀ e ∈ l, e.refKey = false) ∧ ∀ x : Str, match look ks x with
    | some y => ∃ e, l.find? (·.key.isStr x) = some e ∧ RelV (.str y) e.val
    | none => l.find? (·.key.isStr x) = none
  | [], [], _ => ⟨trivial, (fun _ h => nomatch h), fun _ => rfl⟩
  | [], _ :: _, h => by cases h
  | _ :: _, [], h => by cases h
  | e :: l, q :: ks, h => by
    have h : sdE e :: l.map sdE = some (q.1, PyData.keyHash P q.1, q.2) :: ks.map (fun q => some (q.1, PyData.keyHash P q.1, q.2)) := h
    injection h with h1 h2
    obtain ⟨i1, i2, i3⟩ := sd_lit h2
    unfold sdE at h1
    split at h1
    · rename_i x t y t' e1 e2
      have h3 := Option.some.inj h1
      obtain ⟨h4, h5⟩ := Prod.mk.inj h3
      obtain ⟨h5, h6⟩ := Prod.mk.inj h5
      refine ⟨⟨⟨x, t, e1, by rw [h5, h4]⟩, i1⟩, fun e' m => ?_, fun z => ?_⟩
      · rcases List.mem_cons.mp m with rfl | m
        · unfold DictEntry.refKey
          rw [e1]
        · exact i2 _ m
      · have ez : e.key.isStr z = decide (q.1 = z) := by
          rw [e1, ← h4]
          show (x == z) = decide (x = z)
          by_cases hz : x = z
          · subst hz; simp
          · simp [hz]
        have i3 := i3 z
        unfold look at i3 ⊢
        rw [List.find?_cons, List.find?_cons, ez]
        by_cases hz : q.1 = z
        · rw [decide_eq_true hz]
          refine ⟨e, rfl, ?_⟩
          rw [e2]
          show ∃ t, Value.str y t' = Value.str q.2 t
          rw [← h6]
          exact ⟨_, rfl⟩
        · rw [decide_eq_false hz]
          exact i3
    · cases h1
theorem sd_of {W : Wd} {a : Addr} {kvs : List (Str × Str)} (h : sdW W.K a = some (kvs.map fun q => some (q.1, PyData.keyHash W.w.params q.1, q.2))) : SD W a kvs := by
  unfold sdW at h
  split at h
  · rename_i c es n sl hl
    split at h
    · rename_i hc
      rw [Bool.and_eq_true, Bool.and_eq_true, decide_eq_true_eq, Bool.not_eq_true'] at hc
      obtain ⟨rfl, h1, h2⟩ := hc
      have e2 : sl = #[] := Array.isEmpty_iff.mp h1
      subst e2
      obtain ⟨i1, i2, i3⟩ := sd_lit (Option.some.inj h)
      refine ⟨⟨es, n, hl, i1, h2⟩, fun x => ?_⟩
      have i3 := i3 x
      unfold PySem.W.nsIn
      rw [hl]
      show ∃ r, (match es.toList.find? (·.key.isStr x) with
        | some e => some (some e.val)
        | none => if es.toList.any (·.refKey) then none else some none) = some r ∧ _
      cases hk : look kvs x with
      | some y =>
        rw [hk] at i3
        obtain ⟨e, e1, e3⟩ := i3
        rw [e1]
        exact ⟨_, rfl, e.val, rfl, e3⟩
      | none =>
        rw [hk] at i3
        have i3 : es.toList.find? (·.key.isStr x) = none := i3
        rw [i3]
        have : es.toList.any (·.refKey) = false := by
          rw [List.any_eq_false]
          intro e m
          rw [i2 e m]
          simp
        rw [this]
        exact ⟨none, rfl, rfl⟩
    · cases h
  · cases h

/-! ### the end -/
def noList (K : PySem.W.Frag) : Bool := K.all fun p => match p.2.cls with
  | .type c => decide (c ≠ "list")
  | _ => true
theorem look_mem {a : Addr} {o : Obj} : ∀ {K : PySem.W.Frag}, K.lookup a = some o → (a, o) ∈ K
  | [], h => by cases h
  | (b, u) :: r, h => by
    rw [List.lookup_cons] at h
    split at h
    · rename_i e
      cases h
      rw [beq_iff_eq.mp e]
      exact List.mem_cons_self
    · exact List.mem_cons_of_mem _ (look_mem h)
theorem noList_rd {K : PySem.W.Frag} {H : Hp} {a : Addr} {xs : List V} (h : noList K = true) (q : SqL K H a xs) : Rd H a (.lst xs) := by
  rcases q with q | ⟨o, its, n, hk, hc, _⟩
  · exact q
  · have m : (a, o) ∈ K := look_mem hk
    have := List.all_eq_true.mp h _ m
    rw [hc] at this
    simp at this
def spLaw (n : Nat) (K : PySem.W.Frag) : Sp := fun vs H Q _ => ∃ (a : Addr) (ns : List Int), vs = [.ref a] ∧ SqL K H a (ns.map V.int) ∧ ns.length ≤ n ∧ ∀ H', Q (.bl true) H'
theorem rvs_ints {W : Wd} {H : Hp} {ads : List Addr} : ∀ ns : List Int, RVs W H ads (ns.map PV.int) (ns.map V.int)
  | [] => .nil
  | n :: r => .cons (mk_int n) (rvs_ints r)
theorem law_fn {P : Program} {w : World} {K : PySem.W.Frag} {mg : Str → Option Value} {base : Heap} {W : Wd} {G : Glb} {tbl : List DefD} {fa : FName → Option Addr} {d : DefD} {f : Addr} {fd : FuncData} {N n : Nat} (F : Facts w K mg W G tbl fa) (hd : tabOf tbl ("", "law") = some d) (hF : Fun K d.x d.qual d.st f fd) (nl : noList K = true)
    (law : ∀ ns : List Int, ns.length ≤ n → ∃ g', callF (tabF tbl) N ("", "law") [.ref 0] [.rol (ns.map .int)] = some (.ok (.bl true) g')) : FnOk P w K mg base CX0 (2 * N) f fd d.ps (spLaw n K) := by
  refine (tab_fn F N _ d f fd hd hF).imp fun vs H Q E ⟨a, ns, h1, h2, h3, h4⟩ => ?_
  subst h1
  obtain ⟨g', hl⟩ := law ns h3
  refine ⟨[.ref 0], [.rol (ns.map .int)], [a], .bl true, g', ⟨rfl, by simp, fun m o b e1 e2 => ?_⟩, .cons (mk_ref rfl) .nil, hl, fun v' H' ads' ex rg rv => ?_⟩
  · cases m with
    | zero =>
      cases e1
      cases e2
      exact ⟨_, noList_rd nl h2, rvs_ints ns⟩
    | succ m => simp at e1
  · rw [rv_bl rv]
    exact h4 _
theorem walk_law {l : PySem.W.OpenLaw} {q : Program} {loose : List Str} {XP : (Str → Option Value) → Heap → Prop} {YP : World → Heap → Prop} {d : DefRec} {K : Params → PySem.W.Frag} {n N : Nat} {x : Str} (hn : l.most = some n) (hn2 : n ≤ sizeLine) (hdf : d.params.defaults = []) (hr : Room (2 * N) callerA)
    (hY : ∀ (w : World) (h : Heap), YP w h → (K w.params).In h)
    (F : ∀ (w : World) (mg : Str → Option Value) (fa : Addr) (h : Heap), (K w.params).In h → h.Ns mainGlobals mg → mg d.name = some (.ref fa) →
      ∃ fd : FuncData, (∀ (s : Shared) (u : Value), BindsTo s fd ⟨[u], []⟩ [(x, u)]) ∧ ∀ base : Heap, (K w.params).In base → base.Ns mainGlobals mg → FnOk l.prog w (K w.params) mg base CX0 (2 * N) fa fd [x] (spLaw n (K w.params))) :
    PySem.W.WalkO q loose XP YP l.row.toRowW d [] (fun f vs => PySem.call f vs) :=
  L2.walk_of (n := n) (k := 2 * N) (x := x) (CX := fun _ => CX0) (sp := fun w => spLaw n (K w.params)) hn hn2 hdf hr hY F (fun _ _ a ns hl _ hS => ⟨a, ns, rfl, hS, hl, fun _ => rfl⟩) fun _ _ _ _ _ z => z
end Vm
end

section
set_option maxRecDepth 100000
set_option maxHeartbeats 8000000
/-! VmP: facts by lists. -/
namespace Vm
open PySem L2 PySem.Spec PyProof.Rows

def AllL {α : Type} (P : α → Prop) : List α → Prop
  | [] => True
  | a :: r => P a ∧ AllL P r
theorem all_of {α : Type} {P : α → Prop} : ∀ {l : List α}, AllL P l → ∀ a ∈ l, P a
  | _ :: _, ⟨h, _⟩, _, .head _ => h
  | _ :: _, ⟨_, r⟩, _, .tail _ m => all_of r _ m
def glbOf (gl : List (Str × Gb)) (bl at_ : List Str) : Glb := { glob := fun x => gl.lookup x, blt := fun x => decide (x ∈ bl), attr := fun x => decide (x ∈ at_) }
theorem lookS_mem {α : Type} {x : Str} {v : α} : ∀ {l : List (Str × α)}, l.lookup x = some v → (x, v) ∈ l
  | [], h => by cases h
  | (b, u) :: r, h => by
    rw [List.lookup_cons] at h
    split at h
    · rename_i e
      cases h
      rw [beq_iff_eq.mp e]
      exact List.mem_cons_self
    · exact List.mem_cons_of_mem _ (lookS_mem h)
def GbOk (K : PySem.W.Frag) (mg : Str → Option Value) (W : Wd) (tbl : List DefD) (fa : FName → Option Addr) (p : Str × Gb) : Prop := match p.2 with
  | .val v => ∃ u v', mg p.1 = some u ∧ RelV v' u ∧ ∀ H ads, RV W H ads v v'
  | .fn nm => ∃ f, mg p.1 = some (.ref f) ∧ fa nm = some f ∧ (tabOf tbl nm).isSome = true
  | .cls c => ∃ C f, mg p.1 = some (.ref C) ∧ W.cls c = some C ∧ Mk K C f ∧ fa (c, "__init__") = some f ∧ (tabOf tbl (c, "__init__")).isSome = true
def faOf (l : List (FName × Addr)) (nm : FName) : Option Addr := (l.find? fun p => decide (p.1 = nm)).map (·.2)
/-- a law of defs alone -/
theorem facts_of {w : World} {K : PySem.W.Frag} {mg : Str → Option Value} {gl : List (Str × Gb)} {bl : List Str} {tbl : List DefD} {fas : List (FName × Addr)}
    (hd : AllL (fun d : DefD => ∃ f fd, faOf fas d.nm = some f ∧ Fun K d.x d.qual d.st f fd ∧ Binds K fd d.ps []) tbl) (hden : ∀ d ∈ tbl, DefOk (glbOf gl bl []) d)
    (hg : AllL (GbOk K mg ⟨K, w, fun _ => none, fun _ => false⟩ tbl (faOf fas)) gl) (hb : AllL (fun x => mg x = none) bl) : Facts w K mg ⟨K, w, fun _ => none, fun _ => false⟩ (glbOf gl bl []) tbl (faOf fas) where
  hK := rfl
  hw := rfl
  attr := by funext x; rfl
  defs := all_of hd
  den := hden
  val := fun x v h => all_of hg _ (lookS_mem h)
  fns := fun x nm h => by
    obtain ⟨f, h1, h2, h3⟩ : ∃ f, mg x = some (.ref f) ∧ faOf fas nm = some f ∧ (tabOf tbl nm).isSome = true := all_of hg _ (lookS_mem h)
    exact ⟨f, h1, h2, fun e => by rw [e] at h3; cases h3⟩
  clss := fun x c h => by
    obtain ⟨C, f, h1, h2, h3⟩ : ∃ C f, mg x = some (.ref C) ∧ (none : Option Addr) = some C ∧ _ := all_of hg _ (lookS_mem h)
    cases h2
  mth := fun c C m h => nomatch h
  cl := fun c C h => nomatch h
  at_ := fun f h => nomatch h
  blt := fun x h => all_of hb _ (of_decide_eq_true h)
end Vm
end

section
set_option maxRecDepth 100000
set_option maxHeartbeats 4000000
/-! VmQ: going through a def's code by hand: loops, comprehensions, data; the expressions of the package. -/
namespace Vm
open PySem

/-! ### what is gone over, as a list -/
structure Items (src : Src) (L : List PV) (g : G) : Prop where
  len : src.len g = L.length
  at_ : ∀ i, i ≤ L.length → src.item i g = some L[i]?
theorem items_tup (l : List PV) (g : G) : Items (.bs (.tup l)) l g := ⟨rfl, fun _ _ => rfl⟩
theorem items_rng (lo c : Int) (n : Nat) (g : G) : Items (.rng lo c n) ((List.range n).map fun (i : Nat) => PV.int (lo + (i : Int) * c)) g := by
  refine ⟨by simp [Src.len], fun i _ => ?_⟩
  show (if i < n then some (some (PV.int (lo + (i : Int) * c))) else some none) = _
  by_cases h : i < n
  · rw [if_pos h]; simp [h]
  · rw [if_neg h]; simp [h]
theorem items_zip_st {x : Str} {l : List PV} (g : G) : Items (.zip (.str x) (.tup l)) (List.zipWith (fun a b => PV.tup [a, b]) (signs x) l) g := by
  refine ⟨by simp [Src.len, Bs.items], fun i hi => ?_⟩
  simp only [Src.item, Bs.items]
  rw [List.getElem?_zipWith]
  rw [List.length_zipWith] at hi
  cases h1 : (signs x)[i]? with
  | none =>
    have := List.getElem?_eq_none_iff.mp h1
    simp only
    rw [if_pos (by omega)]
  | some a =>
    cases h2 : l[i]? with
    | none =>
      have := List.getElem?_eq_none_iff.mp h2
      simp only
      rw [if_pos (by omega)]
    | some b => rfl
theorem items_lst {r : Nat} {l : List PV} {g : G} (h : g[r]? = some (.lst l)) : Items (.bs (.lst r)) l g := by
  refine ⟨?_, fun i _ => ?_⟩ <;> simp [Src.len, Src.item, Bs.items, seqOf, h]
/-- a for whose body goes on each time -/
theorem for_inv {src : Src} {tg : MG} {b : MS} {L : List PV} {I : Nat → Sl → G → Prop} (hi : ∀ i σ g, I i σ g → Items src L g)
    (hs : ∀ i x σ g, L[i]? = some x → I i σ g → ∃ σ1 g1 σ2 g2, tg x σ g = some (σ1, g1) ∧ (b σ1 g1 = some (.nx σ2 g2) ∨ b σ1 g1 = some (.ct σ2 g2)) ∧ I (i + 1) σ2 g2) :
    ∀ (m i : Nat) (σ : Sl) (g : G), m = L.length - i → i ≤ L.length → I i σ g → ∃ σ' g', forLoop src tg b (m + 1) i σ g = some (.nx σ' g') ∧ I L.length σ' g'
  | 0, i, σ, g, hm, hl, h => by
    have e : i = L.length := by omega
    subst e
    unfold forLoop
    rw [(hi _ _ _ h).at_ _ (Nat.le_refl _), List.getElem?_eq_none (Nat.le_refl _)]
    exact ⟨σ, g, rfl, h⟩
  | m + 1, i, σ, g, hm, hl, h => by
    have hlt : i < L.length := by omega
    unfold forLoop
    rw [(hi _ _ _ h).at_ _ (Nat.le_of_lt hlt), List.getElem?_eq_getElem hlt]
    obtain ⟨σ1, g1, σ2, g2, e1, e2, e3⟩ := hs i _ σ g (List.getElem?_eq_getElem hlt) h
    obtain ⟨σ', g', q1, q2⟩ := for_inv hi hs m (i + 1) σ2 g2 (by omega) (by omega) e3
    refine ⟨σ', g', ?_, q2⟩
    dsimp only
    rw [e1]
    dsimp only
    rcases e2 with e2 | e2 <;> rw [e2] <;> exact q1
theorem sFor_inv {it : MI} {src : Src} {tg : MG} {b : MS} {L : List PV} {I : Nat → Sl → G → Prop} {σ : Sl} {g g1 : G} (hit : it σ g = some (.ok src g1)) (h0 : I 0 σ g1) (hi : ∀ i σ g, I i σ g → Items src L g)
    (hs : ∀ i x σ g, L[i]? = some x → I i σ g → ∃ σ1 g1 σ2 g2, tg x σ g = some (σ1, g1) ∧ (b σ1 g1 = some (.nx σ2 g2) ∨ b σ1 g1 = some (.ct σ2 g2)) ∧ I (i + 1) σ2 g2) :
    ∃ σ' g', sFor it tg b σ g = some (.nx σ' g') ∧ I L.length σ' g' := by
  unfold sFor
  rw [hit]
  dsimp only
  rw [(hi _ _ _ h0).len]
  exact for_inv hi hs L.length 0 σ g1 (by omega) (Nat.zero_le _) h0
/-- a comprehension; I: how far, what is gathered, the heap (in which the new list stands at D) -/
theorem comp_inv {src : Src} {σ0 : Sl} {vs : List Nat} {tg : MG} {t : ME Bool} {e : ME PV} {D : Nat} {L : List PV} {I : Nat → List PV → G → Prop} (hi : ∀ i acc g, I i acc g → Items src L g ∧ g[D]? = some (.lst acc) ∧ acc.length ≤ i) (hb : L.length ≤ big)
    (hs : ∀ i x acc g, L[i]? = some x → I i acc g → ∃ σ1 g1 c g2, tg x (wipeP σ0 vs) g = some (σ1, g1) ∧ t σ1 g1 = some (.ok c g2) ∧ ((c = false ∧ I (i + 1) acc g2) ∨ (c = true ∧ ∃ y g3, e σ1 g2 = some (.ok y g3) ∧ g3[D]? = some (.lst acc) ∧ I (i + 1) (acc ++ [y]) (g3.set D (.lst (acc ++ [y])))))) :
    ∀ (m i : Nat) (acc : List PV) (g : G), m = L.length - i → i ≤ L.length → I i acc g → ∃ acc' g', compLoop src σ0 vs tg t e D (m + 1) i g = some g' ∧ I L.length acc' g'
  | 0, i, acc, g, hm, hl, h => by
    have e : i = L.length := by omega
    subst e
    unfold compLoop
    rw [(hi _ _ _ h).1.at_ _ (Nat.le_refl _), List.getElem?_eq_none (Nat.le_refl _)]
    exact ⟨acc, g, rfl, h⟩
  | m + 1, i, acc, g, hm, hl, h => by
    have hlt : i < L.length := by omega
    unfold compLoop
    rw [(hi _ _ _ h).1.at_ _ (Nat.le_of_lt hlt), List.getElem?_eq_getElem hlt]
    obtain ⟨σ1, g1, c, g2, e1, e2, e3⟩ := hs i _ acc g (List.getElem?_eq_getElem hlt) h
    dsimp only
    rw [e1]
    dsimp only
    rw [e2]
    rcases e3 with ⟨rfl, e3⟩ | ⟨rfl, y, g3, e4, e5, e6⟩
    · obtain ⟨a', g', q1, q2⟩ := comp_inv hi hb hs m (i + 1) acc g2 (by omega) (by omega) e3
      exact ⟨a', g', q1, q2⟩
    · obtain ⟨a', g', q1, q2⟩ := comp_inv hi hb hs m (i + 1) _ _ (by omega) (by omega) e6
      refine ⟨a', g', ?_, q2⟩
      dsimp only
      rw [e4]
      dsimp only
      rw [e5]
      dsimp only
      rw [if_pos (by have := (hi _ _ _ h).2.2; omega)]
      exact q1
theorem eComp_inv {it : MI} {src : Src} {σ : Sl} {vs : List Nat} {tg : MG} {t : ME Bool} {e : ME PV} {L : List PV} {I : Nat → List PV → G → Prop} {g g1 : G} (hit : it σ g = some (.ok src g1)) (hlen : Items src L g1) (h0 : I 0 [] (g1 ++ [.lst []]))
    (hi : ∀ i acc g, I i acc g → Items src L g ∧ g[g1.length]? = some (.lst acc) ∧ acc.length ≤ i) (hb : L.length ≤ big)
    (hs : ∀ i x acc g, L[i]? = some x → I i acc g → ∃ σ1 g2 c g3, tg x (wipeP σ vs) g = some (σ1, g2) ∧ t σ1 g2 = some (.ok c g3) ∧ ((c = false ∧ I (i + 1) acc g3) ∨ (c = true ∧ ∃ y g4, e σ1 g3 = some (.ok y g4) ∧ g4[g1.length]? = some (.lst acc) ∧ I (i + 1) (acc ++ [y]) (g4.set g1.length (.lst (acc ++ [y])))))) :
    ∃ acc g', eComp it vs tg t e σ g = some (.ok (.ref g1.length) g') ∧ I L.length acc g' := by
  obtain ⟨acc, g', q1, q2⟩ := comp_inv hi hb hs L.length 0 [] _ (by omega) (Nat.zero_le _) h0
  refine ⟨acc, g', ?_, q2⟩
  unfold eComp
  rw [hit]
  dsimp only
  rw [hlen.len, q1]
/-- items that don't hang on the heap, parts that only add to it -/
theorem eComp_pure {it : MI} {src : Src} {σ : Sl} {vs : List Nat} {tg : MG} {t : ME Bool} {e : ME PV} {L : List PV} {g g1 : G} (p : PV → Bool) (f : PV → PV) (hit : it σ g = some (.ok src g1)) (hsrc : ∀ g, Items src L g) (hb : L.length ≤ big)
    (hs : ∀ x g, x ∈ L → ∃ σ1 m, tg x (wipeP σ vs) g = some (σ1, g) ∧ t σ1 g = some (.ok (p x) (g ++ m)) ∧ (p x = true → ∃ m2, e σ1 (g ++ m) = some (.ok (f x) (g ++ m ++ m2)))) :
    ∃ m, eComp it vs tg t e σ g = some (.ok (.ref g1.length) (g1 ++ .lst ((L.filter p).map f) :: m)) := by
  obtain ⟨acc, g', q1, i1, m, e1, e2⟩ := eComp_inv (vs := vs) (tg := tg) (t := t) (e := e) (I := fun i acc g => i ≤ L.length ∧ ∃ m, acc = ((L.take i).filter p).map f ∧ g = g1 ++ .lst acc :: m) hit (hsrc _) ⟨Nat.zero_le _, [], rfl, rfl⟩
    (fun i acc g ⟨hi, m, e1, e2⟩ => ⟨hsrc _, by rw [e2, List.getElem?_append_right (Nat.le_refl _), Nat.sub_self]; rfl, by
      rw [e1, List.length_map]
      exact Nat.le_trans (List.length_filter_le _ _) (by rw [List.length_take]; omega)⟩) hb
    (fun i x acc g hx ⟨hi, m, e1, e2⟩ => by
      have hlt : i < L.length := (List.getElem?_eq_some_iff.mp hx).1
      obtain ⟨σ1, m1, r1, r2, r3⟩ := hs x g (List.mem_of_getElem? hx)
      have tk : L.take (i + 1) = L.take i ++ [x] := by
        rw [List.take_succ, hx]; rfl
      refine ⟨σ1, g, p x, g ++ m1, r1, r2, ?_⟩
      cases hp : p x with
      | false => exact .inl ⟨rfl, hlt, m ++ m1, by rw [tk, List.filter_append, e1]; simp [hp], by rw [e2]; simp⟩
      | true =>
        obtain ⟨m2, r4⟩ := r3 hp
        refine .inr ⟨rfl, f x, _, r4, ?_, hlt, m ++ m1 ++ m2, by rw [tk, List.filter_append, e1]; simp [hp], ?_⟩
        · rw [e2]; simp [List.getElem?_append]
        · rw [e2]; simp [List.set_append])
  rw [List.take_length] at e1
  subst e1
  exact ⟨m, by rw [q1, e2]⟩

/-! ### data -/
mutual
def dpv : PV → PyData
  | .non => .none
  | .bl b => .bool b
  | .int i => .int i
  | .str x => .str x
  | .tup l => .tuple (dpvs l)
  | .ref _ => .none
  | .sd _ => .none
  | .kt l => .tuple (dpvs l)
def dpvs : List PV → List PyData
  | [] => []
  | a :: r => dpv a :: dpvs r
end
mutual
/-- data alone, of at most n parts -/
def dsz : PV → Option Nat
  | .tup l => (dszs l).map (· + 1)
  | .kt l => (dszs l).map (· + 1)
  | .ref _ => none
  | .sd _ => none
  | .non => some 1
  | .bl _ => some 1
  | .int _ => some 1
  | .str _ => some 1
def dszs : List PV → Option Nat
  | [] => some 1
  | a :: r => match dsz a, dszs r with
    | some m, some n => some (m + n)
    | _, _ => none
end
end Vm
end

section
set_option maxRecDepth 100000
set_option maxHeartbeats 4000000
/-! VmR: what a piece of code asks, as a prop: equations that carry one through a def's code. -/
namespace Vm
open PySem

section
variable {α β : Type}
def W (m : ME α) (σ : Sl) (g : G) (Q : α → G → Prop) : Prop := match m σ g with
  | some (.ok v g') => Q v g'
  | _ => False
def O (r : Option (PV × G)) (Q : PV → G → Prop) : Prop := match r with
  | some (v, g') => Q v g'
  | none => False
def WC (call : CallT) (nm : FName) (as : List PV) (g : G) (Q : PV → G → Prop) : Prop := match call nm as g with
  | some (.ok v g') => Q v g'
  | _ => False
def WS (m : MS) (σ : Sl) (g : G) (D : RS → Prop) : Prop := match m σ g with
  | some r => D r
  | none => False
theorem W_bind (m : ME α) (k : α → ME β) (σ : Sl) (g : G) (Q : β → G → Prop) : W (m.bind k) σ g Q = W m σ g fun a g' => W (k a) σ g' Q := by
  unfold W ME.bind
  cases m σ g with
  | none => rfl
  | some r => cases r <;> rfl
theorem W_ret (a : α) (σ : Sl) (g : G) (Q : α → G → Prop) : W (ME.ret a) σ g Q = Q a g := rfl
theorem W_stuck (σ : Sl) (g : G) (Q : α → G → Prop) : W ME.stuck σ g Q = False := rfl
theorem W_ite (c : Prop) [Decidable c] (a b : ME α) (σ : Sl) (g : G) (Q : α → G → Prop) : W (if c then a else b) σ g Q = if c then W a σ g Q else W b σ g Q := by
  split <;> rfl
theorem W_lift (r : G → Option (PV × G)) (σ : Sl) (g : G) (Q : PV → G → Prop) : W (fun _ g => liftO (r g)) σ g Q = O (r g) Q := by
  unfold W O
  cases h : r g <;> simp [liftO, h]
theorem W_mono {m : ME α} {σ : Sl} {g : G} {Q R : α → G → Prop} (h : W m σ g Q) (k : ∀ v g', Q v g' → R v g') : W m σ g R := by
  unfold W at h ⊢
  split at h
  · exact k _ _ h
  · exact h
theorem W_get {m : ME α} {σ : Sl} {g : G} {Q : α → G → Prop} (h : W m σ g Q) : ∃ v g', m σ g = some (.ok v g') ∧ Q v g' := by
  unfold W at h
  split at h
  · exact ⟨_, _, by assumption, h⟩
  · exact h.elim
theorem W_of {m : ME α} {σ : Sl} {g g' : G} {v : α} {Q : α → G → Prop} (h : m σ g = some (.ok v g')) (q : Q v g') : W m σ g Q := by
  unfold W
  rw [h]
  exact q
end
theorem WC_get {call : CallT} {nm : FName} {as : List PV} {g : G} {Q : PV → G → Prop} (h : WC call nm as g Q) : ∃ v g', call nm as g = some (.ok v g') ∧ Q v g' := by
  unfold WC at h
  split at h
  · exact ⟨_, _, by assumption, h⟩
  · exact h.elim
theorem WC_of {call : CallT} {nm : FName} {as : List PV} {g g' : G} {v : PV} {Q : PV → G → Prop} (h : call nm as g = some (.ok v g')) (q : Q v g') : WC call nm as g Q := by
  unfold WC
  rw [h]
  exact q
theorem WC_mono {call : CallT} {nm : FName} {as : List PV} {g : G} {Q R : PV → G → Prop} (h : WC call nm as g Q) (k : ∀ v g', Q v g' → R v g') : WC call nm as g R := by
  obtain ⟨v, g', e, q⟩ := WC_get h
  exact WC_of e (k _ _ q)
theorem WS_of {m : MS} {σ : Sl} {g : G} {r : RS} {D : RS → Prop} (h : m σ g = some r) (q : D r) : WS m σ g D := by
  unfold WS
  rw [h]
  exact q
section
variable (σ : Sl) (g : G) (a b c : ME PV) (t u : ME Bool) (as : ME (List PV)) (Q : PV → G → Prop) (QL : List PV → G → Prop) (QB : Bool → G → Prop) (QO : Option Int → G → Prop) (D : RS → Prop)
theorem W_var (i : Nat) (v : PV) (h : σ[i]? = some (some v)) : W (eVar i) σ g Q = Q v g := by
  unfold W eVar
  rw [h]
theorem W_var0 (v : PV) (r : Sl) : W (eVar 0) (some v :: r) g Q = Q v g := rfl
theorem W_varS (i : Nat) (x : Option PV) (r : Sl) : W (eVar (i + 1)) (x :: r) g Q = W (eVar i) r g Q := rfl
theorem W_c (v : PV) : W (eC v) σ g Q = Q v g := rfl
theorem W_op2 (f : Op2) : W (eOp2 f a b) σ g Q = W a σ g fun x g1 => W b σ g1 fun y g2 => O (f x y g2) Q := by
  unfold eOp2
  rw [W_bind]; congr; funext x g1; rw [W_bind]; congr; funext y g2; exact W_lift (fun g => f x y g) _ _ _
theorem W_op1 (f : Op1) : W (eOp1 f a) σ g Q = W a σ g fun x g1 => O (f x g1) Q := by
  unfold eOp1
  rw [W_bind]; congr; funext x g1; exact W_lift (fun g => f x g) _ _ _
theorem W_nil : W eNil σ g QL = QL [] g := rfl
theorem W_cons : W (eCons a as) σ g QL = W a σ g fun x g1 => W as σ g1 fun xs g2 => QL (x :: xs) g2 := by
  unfold eCons
  rw [W_bind]; congr; funext x g1; rw [W_bind]; congr
theorem W_fn (f : OpN) : W (eFn f as) σ g Q = W as σ g fun xs g1 => O (f xs g1) Q := by
  unfold eFn
  rw [W_bind]; congr; funext x g1; exact W_lift (fun g => f x g) _ _ _
theorem W_mt (ok : PV → G → Bool) (f : OpN) : W (eMt ok f a as) σ g Q = W a σ g fun x g1 => if ok x g1 = true then W as σ g1 fun xs g2 => O (f (x :: xs) g2) Q else False := by
  unfold eMt
  rw [W_bind]; congr; funext x g1
  by_cases h : ok x g1 = true
  · unfold W
    rw [if_pos h]
    dsimp only
    rw [if_pos h]
    have := W_bind as (fun xs => fun _ g' => liftO (f (x :: xs) g')) σ g1 Q
    unfold W at this
    rw [this]
    congr; funext xs g2
    exact W_lift (fun g => f (x :: xs) g) σ g2 Q
  · unfold W
    rw [if_neg h]
    dsimp only
    rw [if_neg h]
theorem W_call (call : CallT) (nm : FName) : W (eCall call nm as) σ g Q = W as σ g fun xs g1 => WC call nm xs g1 Q := by
  unfold eCall
  rw [W_bind]; congr; funext x g1
  unfold W WC
  cases h : call nm x g1 with
  | none => simp [h]
  | some r => cases r <;> simp [h]
theorem W_tup : W (eTup as) σ g Q = W as σ g fun xs g1 => if xs.length ≤ big then Q (.tup xs) g1 else False := by
  unfold eTup
  rw [W_bind]; congr; funext x g1
  unfold W
  dsimp only
  by_cases h : x.length ≤ big <;> simp [h]
theorem W_lst : W (eLst as) σ g Q = W as σ g fun xs g1 => if xs.length ≤ big then Q (.ref g1.length) (g1 ++ [.lst xs]) else False := by
  unfold eLst
  rw [W_bind]; congr; funext x g1
  unfold W
  dsimp only
  by_cases h : x.length ≤ big <;> simp [h]
theorem W_dct0 : W eDct0 σ g Q = Q (.ref g.length) (g ++ [.dk []]) := rfl
theorem W_pn : W ePartN σ g QO = QO none g := rfl
theorem W_part : W (ePart a) σ g QO = W a σ g fun x g1 => ∃ i, x = .int i ∧ QO (some i) g1 := by
  unfold ePart
  rw [W_bind]; congr; funext x g1
  cases x <;> simp [W, ME.ret, ME.stuck]
theorem W_sl (l h : ME (Option Int)) : W (eSl a l h) σ g Q = W a σ g fun x g1 => W l σ g1 fun i g2 => W h σ g2 fun j g3 => O (opSl x i j g3) Q := by
  unfold eSl
  rw [W_bind]; congr; funext x g1; rw [W_bind]; congr; funext i g2; rw [W_bind]; congr; funext j g3; exact W_lift (fun g => opSl x i j g) _ _ _
theorem W_isTy (t : String) : W (eIsTy [t] a) σ g Q = W a σ g fun x g1 => match isTy t x g1 with
    | some b => Q (.bl b) g1
    | none => False := by
  unfold eIsTy
  rw [W_bind]; congr; funext x g1
  unfold W
  dsimp only
  cases isTy t x g1 <;> rfl
theorem W_tru : W (tTru a) σ g QB = W a σ g fun x g1 => match tru x g1 with
    | some b => QB b g1
    | none => False := by
  unfold tTru
  rw [W_bind]; congr; funext x g1
  unfold W
  dsimp only
  cases tru x g1 <;> rfl
theorem W_bl : W (tBl a) σ g QB = W a σ g fun x g1 => ∃ b, x = .bl b ∧ QB b g1 := by
  unfold tBl
  rw [W_bind]; congr; funext x g1
  cases x <;> simp [W, ME.ret, ME.stuck]
theorem W_and : W (tAnd t u) σ g QB = W t σ g fun c g1 => if c = true then W u σ g1 QB else QB false g1 := by
  unfold tAnd
  rw [W_bind]; congr; funext c g1
  cases c <;> rfl
theorem W_or : W (tOr t u) σ g QB = W t σ g fun c g1 => if c = true then QB true g1 else W u σ g1 QB := by
  unfold tOr
  rw [W_bind]; congr; funext c g1
  cases c <;> rfl
theorem W_not : W (tNot t) σ g QB = W t σ g fun c g1 => QB (!c) g1 := by
  unfold tNot
  rw [W_bind]; rfl
theorem W_eBl : W (eBl t) σ g Q = W t σ g fun c g1 => Q (.bl c) g1 := by
  unfold eBl
  rw [W_bind]; rfl
theorem W_if : W (eIf t a b) σ g Q = W t σ g fun c g1 => if c = true then W a σ g1 Q else W b σ g1 Q := by
  unfold eIf
  rw [W_bind]; congr; funext c g1
  cases c <;> rfl
theorem W_eAnd : W (eAnd a b) σ g Q = W a σ g fun x g1 => match tru x g1 with
    | some true => W b σ g1 Q
    | some false => Q x g1
    | none => False := by
  unfold eAnd
  rw [W_bind]; congr; funext x g1
  unfold W
  dsimp only
  cases tru x g1 with
  | none => rfl
  | some c => cases c <;> rfl
theorem W_eOr : W (eOr a b) σ g Q = W a σ g fun x g1 => match tru x g1 with
    | some true => Q x g1
    | some false => W b σ g1 Q
    | none => False := by
  unfold eOr
  rw [W_bind]; congr; funext x g1
  unfold W
  dsimp only
  cases tru x g1 with
  | none => rfl
  | some c => cases c <;> rfl
theorem W_yes : W tYes σ g QB = QB true g := rfl
/-! statements -/
theorem S_next : WS sNext σ g D = D (.nx σ g) := rfl
theorem S_seq (m n : MS) : WS (sSeq m n) σ g D = WS m σ g fun r => match r with
    | .nx σ' g' => WS n σ' g' D
    | r => D r := by
  unfold WS sSeq
  cases m σ g with
  | none => rfl
  | some r => cases r <;> rfl
theorem S_expr : WS (sExpr a) σ g (fun r => D r) = WS (sExpr a) σ g D := rfl
theorem S_ret (D : RS → Prop) (hx : ∀ x g, ¬ D (.xc x σ g)) : WS (sRet a) σ g D = W a σ g fun v g' => D (.rt v g') := by
  unfold WS sRet W
  cases a σ g with
  | none => rfl
  | some r => cases r with
    | ok v g' => rfl
    | exc x g' => exact propext ⟨fun h => hx _ _ h, fun h => h.elim⟩
end
/-- one direction: what is asked ahead of what one wants -/
theorem s_ret {σ : Sl} {g : G} {a : ME PV} {D : RS → Prop} (h : W a σ g fun v g' => D (.rt v g')) : WS (sRet a) σ g D := by
  obtain ⟨v, g', e, q⟩ := W_get h
  exact WS_of (by unfold sRet; rw [e]) q
theorem s_expr {σ : Sl} {g : G} {a : ME PV} {D : RS → Prop} (h : W a σ g fun _ g' => D (.nx σ g')) : WS (sExpr a) σ g D := by
  obtain ⟨v, g', e, q⟩ := W_get h
  exact WS_of (by unfold sExpr; rw [e]) q
theorem s_set {σ : Sl} {g : G} {a : ME PV} {i : Nat} {D : RS → Prop} (h : W a σ g fun v g' => D (.nx (σ.set i (some v)) g')) : WS (sAsg (gName i) a) σ g D := by
  obtain ⟨v, g', e, q⟩ := W_get h
  exact WS_of (by unfold sAsg gName; rw [e]) q
theorem s_asg {σ : Sl} {g : G} {a : ME PV} {tg : MG} {D : RS → Prop} (h : W a σ g fun v g' => ∃ σ2 g2, tg v σ g' = some (σ2, g2) ∧ D (.nx σ2 g2)) : WS (sAsg tg a) σ g D := by
  obtain ⟨v, g', e, σ2, g2, e2, q⟩ := W_get h
  exact WS_of (by unfold sAsg; rw [e]; dsimp only; rw [e2]) q
theorem s_if {σ : Sl} {g : G} {t : ME Bool} {m n : MS} {D : RS → Prop} (h : W t σ g fun c g' => if c = true then WS m σ g' D else WS n σ g' D) : WS (sIf t m n) σ g D := by
  obtain ⟨c, g', e, q⟩ := W_get h
  unfold WS sIf
  rw [e]
  cases c with
  | true => rw [if_pos rfl] at q; exact q
  | false => rw [if_neg Bool.false_ne_true] at q; exact q
theorem s_seq {σ : Sl} {g : G} {m n : MS} {D : RS → Prop} (h : WS m σ g fun r => match r with
    | .nx σ' g' => WS n σ' g' D
    | r => D r) : WS (sSeq m n) σ g D := by rw [S_seq]; exact h
theorem s_next {σ : Sl} {g : G} {D : RS → Prop} (h : D (.nx σ g)) : WS sNext σ g D := h
/-- what a def's call asks -/
def RB (Q : PV → G → Prop) : RS → Prop
  | .nx _ g => Q .non g
  | .rt v g => Q v g
  | _ => False
theorem wc_body {call : CallT} {nm : FName} {as : List PV} {g : G} {σ : Sl} {m : MS} {Q : PV → G → Prop} (h : call nm as g = runBody (m σ g)) (k : WS m σ g (RB Q)) : WC call nm as g Q := by
  unfold WC
  rw [h]
  unfold WS at k
  split at k
  · rename_i r e
    rw [e]
    cases r <;> first | exact k | exact k.elim
  · exact k.elim
end Vm
end

section
set_option maxRecDepth 100000
set_option maxHeartbeats 4000000
/-! VmS: what the operations ask. -/
namespace Vm
open PySem

section
variable (g : G) (Q : PV → G → Prop)
theorem atI_ok {α : Type} {l : List α} {i : Int} {v : α} (h0 : 0 ≤ i) (h : l[i.toNat]? = some v) : L2.atI l i = some v := by
  have hl := (List.getElem?_eq_some_iff.mp h).1
  unfold L2.atI L2.ixN
  rw [if_pos h0, if_pos (by omega)]
  exact h
theorem beq_dec (a b : Str) : (a == b) = decide (a = b) := by
  by_cases e : a = b
  · subst e; simp
  · simp [e]
theorem O_some (v : PV) (g' : G) : O (some (v, g')) Q = Q v g' := rfl
theorem O_ix_t {l : List PV} {i : Int} {v : PV} (h : L2.atI l i = some v) : O (opIx (.tup l) (.int i) g) Q = Q v g := by
  simp [O, opIx, h]
theorem O_ix_l {l : List PV} {i : Int} {v : PV} {r : Nat} (h1 : g[r]? = some (.lst l)) (h : L2.atI l i = some v) : O (opIx (.ref r) (.int i) g) Q = Q v g := by
  simp [O, opIx, h1, h]
theorem O_ix_0 (a : PV) (l : List PV) : O (opIx (.tup (a :: l)) (.int 0) g) Q = Q a g := O_ix_t g Q (atI_ok (by decide) rfl)
theorem O_ix_1 (a b : PV) (l : List PV) : O (opIx (.tup (a :: b :: l)) (.int 1) g) Q = Q b g := O_ix_t g Q (atI_ok (by decide) rfl)
theorem O_ix_2 (a b c : PV) (l : List PV) : O (opIx (.tup (a :: b :: c :: l)) (.int 2) g) Q = Q c g := O_ix_t g Q (atI_ok (by decide) rfl)
theorem O_ix_3 (a b c d : PV) (l : List PV) : O (opIx (.tup (a :: b :: c :: d :: l)) (.int 3) g) Q = Q d g := O_ix_t g Q (atI_ok (by decide) rfl)
theorem O_ix_4 (a b c d e : PV) (l : List PV) : O (opIx (.tup (a :: b :: c :: d :: e :: l)) (.int 4) g) Q = Q e g := O_ix_t g Q (atI_ok (by decide) rfl)
theorem O_eq_ss (a b : Str) (ha : PyData.strOk a = true) (hb : PyData.strOk b = true) : O (opEq (.str a) (.str b) g) Q = Q (.bl (decide (a = b))) g := by
  have h : eqP g (.str a) (.str b) = some (decide (a = b)) := by
    simp [eqP, deepF, dat, SeqAt.shaped, PyData.canLay0, PyData.depth, PyData.eqv, beq_dec, ha, hb]
  simp [O, opEq, h]
theorem O_ne_ss (a b : Str) (ha : PyData.strOk a = true) (hb : PyData.strOk b = true) : O (opNe (.str a) (.str b) g) Q = Q (.bl (!decide (a = b))) g := by
  have := O_eq_ss g (fun v g' => match v with | .bl c => Q (.bl (!c)) g' | _ => False) a b ha hb
  unfold opNe
  unfold opEq at this
  cases h : eqP g (.str a) (.str b) with
  | none => rw [h] at this; simp [O] at this ⊢; exact this
  | some c => rw [h] at this; simpa [O] using this
theorem O_eq_ii (i j : Int) : O (opEq (.int i) (.int j) g) Q = Q (.bl (decide (i = j))) g := by
  have h : eqP g (.int i) (.int j) = some (decide (i = j)) := by
    simp [eqP, deepF, dat, SeqAt.shaped, PyData.canLay0, PyData.depth, PyData.eqv]
    by_cases e : i = j
    · subst e; simp
    · simp [e]
  simp [O, opEq, h]
theorem O_ne_ii (i j : Int) : O (opNe (.int i) (.int j) g) Q = Q (.bl (!decide (i = j))) g := by
  have h : eqP g (.int i) (.int j) = some (decide (i = j)) := by
    simp [eqP, deepF, dat, SeqAt.shaped, PyData.canLay0, PyData.depth, PyData.eqv]
    by_cases e : i = j
    · subst e; simp
    · simp [e]
  simp [O, opNe, h]
theorem O_in_1 (a x : Str) : O (opIn (.str a) (.tup [.str x]) g) Q = Q (.bl (x == a)) g := by simp [O, opIn, flatP, eqF]
theorem O_in_2 (a x y : Str) : O (opIn (.str a) (.tup [.str x, .str y]) g) Q = Q (.bl (decide (x = a) || decide (y = a))) g := by
  simp [O, opIn, flatP, eqF, beq_dec]
theorem O_in_3 (a x y z : Str) : O (opIn (.str a) (.tup [.str x, .str y, .str z]) g) Q = Q (.bl (decide (x = a) || (decide (y = a) || decide (z = a)))) g := by
  simp [O, opIn, flatP, eqF, beq_dec]
theorem O_lt (i j : Int) : O (opLt (.int i) (.int j) g) Q = Q (.bl (decide (i < j))) g := rfl
theorem O_le (i j : Int) : O (opLe (.int i) (.int j) g) Q = Q (.bl (decide (i ≤ j))) g := rfl
theorem O_gt (i j : Int) : O (opGt (.int i) (.int j) g) Q = Q (.bl (decide (j < i))) g := rfl
theorem O_ge (i j : Int) : O (opGe (.int i) (.int j) g) Q = Q (.bl (decide (j ≤ i))) g := rfl
theorem O_add (i j : Int) : O (opAdd (.int i) (.int j) g) Q = Q (.int (i + j)) g := rfl
theorem O_addt (a b : List PV) (h : a.length + b.length ≤ big) : O (opAdd (.tup a) (.tup b) g) Q = Q (.tup (a ++ b)) g := by simp [O, opAdd, h]
theorem O_addl {p q : Nat} {a b : List PV} (h1 : g[p]? = some (.lst a)) (h2 : g[q]? = some (.lst b)) (h : a.length + b.length ≤ big) : O (opAdd (.ref p) (.ref q) g) Q = Q (.ref g.length) (g ++ [.lst (a ++ b)]) := by
  simp [O, opAdd, lstOf, h1, h2, h]
theorem O_sub (i j : Int) : O (opSub (.int i) (.int j) g) Q = Q (.int (i - j)) g := rfl
theorem O_mul (i j : Int) (h : (small64 i || small64 j) = true) : O (opMul (.int i) (.int j) g) Q = Q (.int (i * j)) g := by simp [O, opMul, h]
theorem O_mod (i j : Int) (h : 0 < j) : O (opMod (.int i) (.int j) g) Q = Q (.int (i % j)) g := by simp [O, opMod, h]
theorem O_div (i j : Int) (h : 0 < j ∧ j < 1073741824) : O (opDiv (.int i) (.int j) g) Q = Q (.int (i / j)) g := by simp [O, opDiv, h]
theorem O_pow (i j : Int) (h : (0 ≤ j ∧ j ≤ 1000000) ∧ i.natAbs < 2 ^ 64) : O (opPow (.int i) (.int j) g) Q = Q (.int (i ^ j.toNat)) g := by simp only [O, opPow]; rw [if_pos h]
theorem O_neg (i : Int) : O (unNeg (.int i) g) Q = Q (.int (-i)) g := rfl
theorem O_int (i : Int) : O (fInt [.int i] g) Q = Q (.int i) g := rfl
theorem O_intb (b : Bool) : O (fInt [.bl b] g) Q = Q (.int (if b then 1 else 0)) g := rfl
theorem O_lent (l : List PV) : O (fLen [.tup l] g) Q = Q (.int l.length) g := rfl
theorem O_lens (x : Str) (h : x.length ≤ big) : O (fLen [.str x] g) Q = Q (.int x.length) g := by simp [O, fLen, h]
theorem O_lenl {r : Nat} {l : List PV} (h : seqOf (.ref r) g = some l) : O (fLen [.ref r] g) Q = Q (.int l.length) g := by simp [O, fLen, h]
theorem O_min (i j : Int) : O (fMin [.int i, .int j] g) Q = Q (.int (if j < i then j else i)) g := rfl
theorem O_max (i j : Int) : O (fMax [.int i, .int j] g) Q = Q (.int (if j > i then j else i)) g := rfl
theorem O_tuplet (l : List PV) : O (fTuple [.tup l] g) Q = Q (.tup l) g := rfl
theorem O_tuplel {r : Nat} {l : List PV} (h : seqOf (.ref r) g = some l) : O (fTuple [.ref r] g) Q = Q (.tup l) g := by simp [O, fTuple, h]
theorem O_sum {r : Nat} {l : List PV} {ns : List Int} (h : seqOf (.ref r) g = some l) (h2 : intsOf l = some ns) : O (fSum [.ref r] g) Q = Q (.int ns.sum) g := by simp [O, fSum, h, h2]
theorem O_any {r : Nat} {l : List PV} {bs : List Bool} (h : seqOf (.ref r) g = some l) (h2 : blsOf l = some bs) : O (fAny [.ref r] g) Q = Q (.bl (bs.any id)) g := by simp [O, fAny, h, h2]
theorem O_all {r : Nat} {l : List PV} {bs : List Bool} (h : seqOf (.ref r) g = some l) (h2 : blsOf l = some bs) : O (fAll [.ref r] g) Q = Q (.bl (bs.all id)) g := by simp [O, fAll, h, h2]
theorem O_app {r : Nat} {l : List PV} {v : PV} (h : g[r]? = some (.lst l)) (h2 : l.length < big) : O (mAppend [.ref r, v] g) Q = Q .non (g.set r (.lst (l ++ [v]))) := by simp [O, mAppend, h, h2]
theorem isL_ok {r : Nat} {l : List PV} (h : g[r]? = some (.lst l)) : isL (.ref r) g = true := by simp [isL, lstOf, h]
theorem seq_l {r : Nat} {l : List PV} (h : g[r]? = some (.lst l)) : seqOf (.ref r) g = some l := by simp [seqOf, h]
theorem seq_r {r : Nat} {l : List PV} (h : g[r]? = some (.rol l)) : seqOf (.ref r) g = some l := by simp [seqOf, h]
end
/-! ### what stays -/
/-- all but S stays, things are only added -/
structure Fr (S : List Nat) (g g' : G) : Prop where
  le : g.length ≤ g'.length
  at_ : ∀ i, i < g.length → i ∉ S → g'[i]? = g[i]?
theorem Fr.refl {S : List Nat} {g : G} : Fr S g g := ⟨Nat.le_refl _, fun _ _ _ => rfl⟩
theorem Fr.trans {S : List Nat} {g g1 g2 : G} (a : Fr S g g1) (b : Fr S g1 g2) : Fr S g g2 :=
  ⟨Nat.le_trans a.le b.le, fun i h1 h2 => (b.at_ i (Nat.lt_of_lt_of_le h1 a.le) h2).trans (a.at_ i h1 h2)⟩
theorem Fr.mono {S S' : List Nat} {g g1 : G} (a : Fr S g g1) (h : ∀ i ∈ S, i ∈ S') : Fr S' g g1 := ⟨a.le, fun i h1 h2 => a.at_ i h1 fun m => h2 (h i m)⟩
theorem Fr.app {S : List Nat} {g : G} (m : G) : Fr S g (g ++ m) := ⟨by simp, fun i h _ => List.getElem?_append_left h⟩
theorem Fr.set {S : List Nat} {g : G} {r : Nat} (o : GO) (h : r ∈ S) : Fr S g (g.set r o) := ⟨by simp, fun i _ hi => List.getElem?_set_ne fun e => hi (by rw [← e]; exact h)⟩
/-- a thing made since may be changed -/
theorem Fr.set_new {S : List Nat} {g g1 : G} {r : Nat} (a : Fr S g g1) (o : GO) (h : g.length ≤ r) : Fr S g (g1.set r o) := ⟨by simpa using a.le, fun i h1 h2 => by
  rw [List.getElem?_set_ne (by omega)]
  exact a.at_ i h1 h2⟩
theorem Fr.get {S : List Nat} {g g1 : G} (a : Fr S g g1) {r : Nat} {o : GO} (h : g[r]? = some o) (hn : r ∉ S) : g1[r]? = some o := by
  rw [a.at_ r (List.getElem?_eq_some_iff.mp h).1 hn]
  exact h
end Vm
end

section
set_option maxRecDepth 100000
set_option maxHeartbeats 4000000
/-! VmT: statements as equations, where nothing is raised. -/
namespace Vm
open PySem

def NX (D : RS → Prop) : Prop := ∀ x σ g, ¬ D (.xc x σ g)
def SK (n : MS) (D : RS → Prop) : RS → Prop
  | .nx σ g => WS n σ g D
  | r => D r
section
variable {D : RS → Prop} {σ : Sl} {g : G} {a b : ME PV} {t : ME Bool} {m n : MS} {Q : PV → G → Prop}
theorem NX_RB : NX (RB Q) := fun _ _ _ h => h
theorem NX_SK (h : NX D) : NX (SK n D) := h
theorem SK_nx : SK n D (.nx σ g) = WS n σ g D := rfl
theorem SK_rt {v : PV} : SK n D (.rt v g) = D (.rt v g) := rfl
theorem SK_bk : SK n D (.bk σ g) = D (.bk σ g) := rfl
theorem SK_ct : SK n D (.ct σ g) = D (.ct σ g) := rfl
theorem RB_nx : RB Q (.nx σ g) = Q .non g := rfl
theorem RB_rt {v : PV} : RB Q (.rt v g) = Q v g := rfl
theorem Q_seq : WS (sSeq m n) σ g D = WS m σ g (SK n D) := by
  unfold WS sSeq
  cases m σ g with
  | none => rfl
  | some r => cases r <;> rfl
theorem Q_next : WS sNext σ g D = D (.nx σ g) := rfl
theorem Q_ct : WS sCt σ g D = D (.ct σ g) := rfl
theorem Q_bk : WS sBk σ g D = D (.bk σ g) := rfl
theorem Q_retN : WS sRetN σ g D = D (.rt .non g) := rfl
theorem no_xc (h : NX D) {x : Exc} : D (.xc x σ g) = False := eq_false (h x σ g)
theorem Q_ret (h : NX D) : WS (sRet a) σ g D = W a σ g fun v g' => D (.rt v g') := by
  unfold WS sRet W
  cases a σ g with
  | none => rfl
  | some r => cases r with
    | ok v g' => rfl
    | exc x g' => exact no_xc h
theorem Q_expr (h : NX D) : WS (sExpr a) σ g D = W a σ g fun _ g' => D (.nx σ g') := by
  unfold WS sExpr W
  cases a σ g with
  | none => rfl
  | some r => cases r with
    | ok v g' => rfl
    | exc x g' => exact no_xc h
theorem Q_set (h : NX D) {i : Nat} : WS (sAsg (gName i) a) σ g D = W a σ g fun v g' => D (.nx (σ.set i (some v)) g') := by
  unfold WS sAsg W
  cases a σ g with
  | none => rfl
  | some r => cases r with
    | ok v g' => rfl
    | exc x g' => exact no_xc h
theorem Q_sub (h : NX D) {o i : ME PV} : WS (sAsg (gSub o i) a) σ g D = W a σ g fun v g' => match gSub o i v σ g' with
    | some (σ2, g2) => D (.nx σ2 g2)
    | none => False := by
  unfold WS sAsg W
  cases a σ g with
  | none => rfl
  | some r => cases r with
    | ok v g' =>
      dsimp only
      cases gSub o i v σ g' with
      | none => rfl
      | some p => rfl
    | exc x g' => exact no_xc h
theorem Q_if (h : NX D) : WS (sIf t m n) σ g D = W t σ g fun c g' => if c = true then WS m σ g' D else WS n σ g' D := by
  unfold WS sIf W
  cases t σ g with
  | none => rfl
  | some r => cases r with
    | ok v g' => cases v <;> rfl
    | exc x g' => exact no_xc h
theorem Q_for {it : MI} {tg : MG} {σ' : Sl} {g' : G} (h : sFor it tg m σ g = some (.nx σ' g')) (q : D (.nx σ' g')) : WS (sFor it tg m) σ g D := WS_of h q
theorem W_rng1 {Q : Src → G → Prop} : W (iRng1 a) σ g Q = W a σ g fun x g1 => ∃ j, x = .int j ∧ in62 j = true ∧ Q (.rng 0 1 j.toNat) g1 := by
  unfold iRng1
  rw [W_bind]; congr; funext x g1
  cases x with
  | int j =>
    unfold W
    by_cases hj : in62 j = true <;> simp [hj]
  | _ => simp [W, ME.stuck]
end
/-! loops -/
def LK (I : Sl → G → Prop) (D : RS → Prop) : RS → Prop
  | .nx σ g => I σ g
  | .ct σ g => I σ g
  | .bk σ g => D (.nx σ g)
  | .rt v g => D (.rt v g)
  | .xc _ _ _ => False
section
variable {D : RS → Prop} {I : Sl → G → Prop} {σ : Sl} {g : G}
theorem NX_LK : NX (LK I D) := fun _ _ _ h => h
theorem NX_LKt : NX (LK I D) = True := eq_true NX_LK
theorem NX_RBt {Q : PV → G → Prop} : NX (RB Q) = True := eq_true NX_RB
theorem NX_SKe {n : MS} : NX (SK n D) = NX D := Eq.trans rfl rfl
theorem LK_nx : LK I D (.nx σ g) = I σ g := rfl
theorem LK_ct : LK I D (.ct σ g) = I σ g := rfl
theorem LK_bk : LK I D (.bk σ g) = D (.nx σ g) := rfl
theorem LK_rt {v : PV} : LK I D (.rt v g) = D (.rt v g) := rfl
end
theorem for_run {src : Src} {tg : MG} {b : MS} {L : List PV} {I : Nat → Sl → G → Prop} {D : RS → Prop} (hi : ∀ i σ g, I i σ g → Items src L g)
    (hs : ∀ i x σ g, L[i]? = some x → I i σ g → ∃ σ1 g1, tg x σ g = some (σ1, g1) ∧ WS b σ1 g1 (LK (I (i + 1)) D)) (hd : ∀ σ g, I L.length σ g → D (.nx σ g)) :
    ∀ (m i : Nat) (σ : Sl) (g : G), m = L.length - i → i ≤ L.length → I i σ g → WS (forLoop src tg b (m + 1) i) σ g D
  | 0, i, σ, g, hm, hl, h => by
    have e : i = L.length := by omega
    subst e
    refine WS_of (r := .nx σ g) ?_ (hd _ _ h)
    unfold forLoop
    rw [(hi _ _ _ h).at_ _ (Nat.le_refl _), List.getElem?_eq_none (Nat.le_refl _)]
  | m + 1, i, σ, g, hm, hl, h => by
    have hlt : i < L.length := by omega
    obtain ⟨σ1, g1, e1, e2⟩ := hs i _ σ g (List.getElem?_eq_getElem hlt) h
    unfold WS at e2
    split at e2
    · rename_i r e3
      unfold WS
      rw [show forLoop src tg b (m + 1 + 1) i σ g = (match src.item i g with
        | none => none
        | some none => some (.nx σ g)
        | some (some x) => match tg x σ g with
          | none => none
          | some (σ2, g2) => match b σ2 g2 with
            | some (.nx σ' g') => forLoop src tg b (m + 1) (i + 1) σ' g'
            | some (.ct σ' g') => forLoop src tg b (m + 1) (i + 1) σ' g'
            | some (.bk σ' g') => some (.nx σ' g')
            | r => r) from rfl, (hi _ _ _ h).at_ _ (Nat.le_of_lt hlt), List.getElem?_eq_getElem hlt]
      dsimp only
      rw [e1]
      dsimp only
      rw [e3]
      cases r with
      | nx σ2 g2 => exact for_run hi hs hd m (i + 1) σ2 g2 (by omega) (by omega) e2
      | ct σ2 g2 => exact for_run hi hs hd m (i + 1) σ2 g2 (by omega) (by omega) e2
      | bk σ2 g2 => exact e2
      | rt v g2 => exact e2
      | xc x σ2 g2 => exact e2.elim
    · exact e2.elim
theorem wp_for {it : MI} {tg : MG} {b : MS} {L : List PV} {σ : Sl} {g : G} {D : RS → Prop} (I : Src → Nat → Sl → G → Prop) (hit : W it σ g fun src g1 => I src 0 σ g1) (hi : ∀ src i σ g, I src i σ g → Items src L g)
    (hs : ∀ src i x σ g, L[i]? = some x → I src i σ g → ∃ σ1 g1, tg x σ g = some (σ1, g1) ∧ WS b σ1 g1 (LK (I src (i + 1)) D)) (hd : ∀ src σ g, I src L.length σ g → D (.nx σ g)) : WS (sFor it tg b) σ g D := by
  obtain ⟨src, g1, e, h⟩ := W_get hit
  have := for_run (D := D) (hi src) (hs src) (hd src) L.length 0 σ g1 (by omega) (Nat.zero_le _) h
  unfold WS at this ⊢
  unfold sFor
  rw [e]
  dsimp only
  rw [(hi _ _ _ _ h).len]
  exact this
theorem wp_comp {it : MI} {vs : List Nat} {tg : MG} {t : ME Bool} {e : ME PV} {L : List PV} {σ : Sl} {g : G} {Q : PV → G → Prop} (I : Src → Nat → Nat → List PV → G → Prop) (hb : L.length ≤ big)
    (hit : W it σ g fun src g1 => Items src L g1 ∧ I src g1.length 0 [] (g1 ++ [.lst []])) (hi : ∀ src D i acc g, I src D i acc g → Items src L g ∧ g[D]? = some (.lst acc) ∧ acc.length ≤ i)
    (hs : ∀ src D i x acc g, L[i]? = some x → I src D i acc g → ∃ σ1, tg x (wipeP σ vs) g = some (σ1, g) ∧ W t σ1 g fun c g2 => if c = true then W e σ1 g2 fun y g3 => g3[D]? = some (.lst acc) ∧ I src D (i + 1) (acc ++ [y]) (g3.set D (.lst (acc ++ [y]))) else I src D (i + 1) acc g2)
    (hd : ∀ src D acc g, I src D L.length acc g → Q (.ref D) g) : W (eComp it vs tg t e) σ g Q := by
  obtain ⟨src, g1, e1, h1, h2⟩ := W_get hit
  obtain ⟨acc, g', q1, q2⟩ := eComp_inv (vs := vs) (tg := tg) (t := t) (e := e) (I := I src g1.length) e1 h1 h2 (fun i acc g h => hi _ _ _ _ _ h) hb fun i x acc g hx h => by
    obtain ⟨σ1, r1, r2⟩ := hs src _ i x acc g hx h
    obtain ⟨c, g2, r3, r4⟩ := W_get r2
    refine ⟨σ1, g, c, g2, r1, r3, ?_⟩
    cases c with
    | false => exact .inl ⟨rfl, by rwa [if_neg Bool.false_ne_true] at r4⟩
    | true =>
      rw [if_pos rfl] at r4
      obtain ⟨y, g3, r5, r6, r7⟩ := W_get r4
      exact .inr ⟨rfl, y, g3, r5, r6, r7⟩
  exact W_of q1 (hd _ _ _ _ q2)
end Vm
end

section
set_option maxRecDepth 100000
set_option maxHeartbeats 4000000
/-! VmU: the expressions of the package. -/
namespace Vm
open PySem

/-- a comprehension of all that is gone over, whose part only adds to the heap -/
theorem wp_map {it : MI} {vs : List Nat} {i : Nat} {e : ME PV} {L ys : List PV} {σ : Sl} {g : G} {Q : PV → G → Prop} (hy : ys.length = L.length) (hb : L.length ≤ big)
    (hit : W it σ g fun src g1 => (∀ m, Items src L (g1 ++ m)) ∧ ∀ m, Q (.ref g1.length) (g1 ++ .lst ys :: m))
    (he : ∀ (j : Nat) (x y : PV) (g' : G) (Q' : PV → G → Prop), L[j]? = some x → ys[j]? = some y → (∀ m, Q' y (g' ++ m)) → W e ((wipeP σ vs).set i (some x)) g' Q') : W (eComp it vs (gName i) tYes e) σ g Q := by
  obtain ⟨src, g1, e1, h1, h2⟩ := W_get hit
  obtain ⟨acc, g', q1, q2, m, q3, q4⟩ := eComp_inv (vs := vs) (tg := gName i) (t := tYes) (e := e) (L := L) (I := fun i acc g => i ≤ L.length ∧ ∃ m, acc = ys.take i ∧ g = g1 ++ .lst acc :: m) e1 (by simpa using h1 []) ⟨Nat.zero_le _, [], rfl, rfl⟩
    (fun i acc g ⟨hi, m, q1, q2⟩ => ⟨by rw [q2]; exact h1 _, by rw [q2, List.getElem?_append_right (Nat.le_refl _), Nat.sub_self]; rfl, by
      rw [q1, List.length_take]; omega⟩) hb
    (fun j x acc g hx ⟨hi, m, q1, q2⟩ => by
      have hlt : j < L.length := (List.getElem?_eq_some_iff.mp hx).1
      have hlt' : j < ys.length := by omega
      have := he j x ys[j] g (fun v g2 => v = ys[j] ∧ ∃ m, g2 = g ++ m) hx (List.getElem?_eq_getElem hlt') fun m => ⟨rfl, m, rfl⟩
      obtain ⟨v, g2, r1, rfl, m2, rfl⟩ := W_get this
      refine ⟨_, g, true, g, rfl, rfl, .inr ⟨rfl, _, _, r1, ?_, hlt, m ++ m2, ?_, ?_⟩⟩
      · rw [q2]; simp [List.getElem?_append]
      · rw [q1, List.take_succ, List.getElem?_eq_getElem hlt']; rfl
      · rw [q2]; simp [List.set_append])
  rw [← hy, List.take_length] at q3
  subst q3
  rw [q4] at q1
  exact W_of q1 (h2 m)
theorem items_ref {r : Nat} {l : List PV} {g : G} (h : g[r]? = some (.lst l)) (m : G) : Items (.bs (.lst r)) l (g ++ m) :=
  items_lst (by rw [List.getElem?_append_left (List.getElem?_eq_some_iff.mp h).1]; exact h)
theorem W_bs {a : ME PV} {σ : Sl} {g : G} {Q : Src → G → Prop} : W (iBs a) σ g Q = W a σ g fun x g1 => match bsOf x g1 with
    | some b => Q (.bs b) g1
    | none => False := by
  unfold iBs
  rw [W_bind]; congr; funext x g1
  unfold W
  dsimp only
  cases bsOf x g1 <;> rfl
theorem bs_ref {r : Nat} {l : List PV} {g : G} (h : g[r]? = some (.lst l)) : bsOf (.ref r) g = some (.lst r) := by simp [bsOf, seqOf, h]
theorem bs_tup {l : List PV} {g : G} : bsOf (.tup l) g = some (.tup l) := rfl

inductive Ex where
  | num (i : Int) | name (x : Str) | plus (a b : Ex) | less (a b : Ex) | cond (a b c : Ex) | lett (x : Str) (a b : Ex) | read | tell (a : Ex) | call (k : Int) (a : Ex) | fault (x : Str) (a : Ex) | take (x : Str) (a : Ex)
  | look (k x : Str) (a b : Ex) | way (k x : Str) (a b : Ex) | anew (x : Str) (t : Int) (a : Ex) | clean (a b : Ex)
namespace Ex
def hd : Ex → Str
  | num _ => "num" | name _ => "name" | plus _ _ => "plus" | less _ _ => "less" | cond _ _ _ => "if" | lett _ _ _ => "let" | read => "read" | tell _ => "tell" | call _ _ => "call" | fault _ _ => "fault" | take _ _ => "take"
  | look _ _ _ _ => "look" | way _ _ _ _ => "way" | anew _ _ _ => "anew" | clean _ _ => "clean"
def pv : Ex → PV
  | num i => .tup [.str "num", .int i]
  | name x => .tup [.str "name", .str x]
  | plus a b => .tup [.str "plus", a.pv, b.pv]
  | less a b => .tup [.str "less", a.pv, b.pv]
  | cond a b c => .tup [.str "if", a.pv, b.pv, c.pv]
  | lett x a b => .tup [.str "let", .str x, a.pv, b.pv]
  | read => .tup [.str "read"]
  | tell a => .tup [.str "tell", a.pv]
  | call k a => .tup [.str "call", .int k, a.pv]
  | fault x a => .tup [.str "fault", .str x, a.pv]
  | take x a => .tup [.str "take", .str x, a.pv]
  | look k x a b => .tup [.str "look", .str k, .str x, a.pv, b.pv]
  | way k x a b => .tup [.str "way", .str k, .str x, a.pv, b.pv]
  | anew x t a => .tup [.str "anew", .str x, .int t, a.pv]
  | clean a b => .tup [.str "clean", a.pv, b.pv]
def parts : Ex → List Ex
  | plus a b => [a, b] | less a b => [a, b] | cond a b c => [a, b, c] | lett _ a b => [a, b] | tell a => [a] | call _ a => [a] | fault _ a => [a] | take _ a => [a] | look _ _ a b => [a, b] | way _ _ a b => [a, b]
  | anew _ _ a => [a] | clean a b => [a, b] | _ => []
def dep : Ex → Nat
  | num _ => 1 | name _ => 1 | read => 1
  | plus a b => 1 + max a.dep b.dep | less a b => 1 + max a.dep b.dep | cond a b c => 1 + max a.dep (max b.dep c.dep) | lett _ a b => 1 + max a.dep b.dep | tell a => 1 + a.dep | call _ a => 1 + a.dep | fault _ a => 1 + a.dep
  | take _ a => 1 + a.dep | look _ _ a b => 1 + max a.dep b.dep | way _ _ a b => 1 + max a.dep b.dep | anew _ _ a => 1 + a.dep | clean a b => 1 + max a.dep b.dep
def count : Ex → Int
  | num _ => 1 | name _ => 1 | read => 1
  | plus a b => 1 + (a.count + b.count) | less a b => 1 + (a.count + b.count) | cond a b c => 1 + (a.count + (b.count + c.count)) | lett _ a b => 1 + (a.count + b.count) | tell a => 1 + a.count | call _ a => 1 + a.count | fault _ a => 1 + a.count
  | take _ a => 1 + a.count | look _ _ a b => 1 + (a.count + b.count) | way _ _ a b => 1 + (a.count + b.count) | anew _ _ a => 1 + a.count | clean a b => 1 + (a.count + b.count)
/-- what stands in the tuple behind the word -/
def ops : Ex → List PV
  | num i => [.int i] | name x => [.str x] | plus a b => [a.pv, b.pv] | less a b => [a.pv, b.pv] | cond a b c => [a.pv, b.pv, c.pv] | lett x a b => [.str x, a.pv, b.pv] | read => [] | tell a => [a.pv] | call k a => [.int k, a.pv]
  | fault x a => [.str x, a.pv] | take x a => [.str x, a.pv] | look k x a b => [.str k, .str x, a.pv, b.pv] | way k x a b => [.str k, .str x, a.pv, b.pv] | anew x t a => [.str x, .int t, a.pv] | clean a b => [a.pv, b.pv]
theorem pv_eq (e : Ex) : e.pv = .tup (.str e.hd :: e.ops) := by cases e <;> simp [pv, hd, ops]
def isT : PV → Bool
  | .tup _ => true
  | _ => false
def okP : PV → Bool
  | .tup _ => true
  | .int _ => true
  | .str _ => true
  | _ => false
theorem isT_int (i : Int) : isT (.int i) = false := rfl
theorem isT_str (x : Str) : isT (.str x) = false := rfl
theorem okP_int (i : Int) : okP (.int i) = true := rfl
theorem okP_str (x : Str) : okP (.str x) = true := rfl
theorem isT_pv (e : Ex) : isT e.pv = true := by rw [pv_eq]; rfl
theorem okP_pv (e : Ex) : okP e.pv = true := by rw [pv_eq]; rfl
theorem ops_parts (e : Ex) : e.ops.filter isT = e.parts.map pv := by
  cases e <;> simp [ops, parts, isT_pv, isT_int, isT_str]
theorem ops_ok (e : Ex) : ∀ x ∈ e.ops, okP x = true := by
  cases e <;> simp [ops, okP_pv, okP_int, okP_str]
theorem count_eq (e : Ex) : e.count = 1 + (e.parts.map count).sum := by
  cases e <;> simp [count, parts] <;> omega
theorem dep_part {e p : Ex} (h : p ∈ e.parts) : p.dep < e.dep := by
  cases e <;> simp [parts] at h <;> rcases h with rfl | rfl | rfl <;> simp [dep] <;> omega
theorem dep_pos (e : Ex) : 0 < e.dep := by cases e <;> simp [dep] <;> omega
end Ex
end Vm
namespace Vm
open PySem
namespace Ex
/-- the letters of a form -/
def form : Ex → Str
  | num _ => "n" | name _ => "x" | plus _ _ => "ee" | less _ _ => "ee" | cond _ _ _ => "eee" | lett _ _ _ => "xee" | read => "" | tell _ => "e" | call _ _ => "ke" | fault _ _ => "xe" | take _ _ => "xe"
  | look _ _ _ _ => "xxee" | way _ _ _ _ => "wxee" | anew _ _ _ => "wte" | clean _ _ => "pe"
def tells : Ex → Bool
  | num _ => false | name _ => false | read => false | tell _ => true
  | plus a b => a.tells || b.tells | less a b => a.tells || b.tells | cond a b c => a.tells || (b.tells || c.tells) | lett _ a b => a.tells || b.tells | call _ a => a.tells | fault _ a => a.tells
  | take _ a => a.tells | look _ _ a b => a.tells || b.tells | way _ _ a b => a.tells || b.tells | anew _ _ a => a.tells | clean a b => a.tells || b.tells
theorem tells_eq (e : Ex) : e.tells = (decide (e.hd = "tell") || (e.parts.map tells).any id) := by
  cases e <;> simp (decide := true) [tells, hd, parts]
theorem ok_words : PyData.strOk "num" = true ∧ PyData.strOk "name" = true ∧ PyData.strOk "plus" = true ∧ PyData.strOk "less" = true ∧ PyData.strOk "if" = true ∧ PyData.strOk "let" = true ∧ PyData.strOk "read" = true ∧ PyData.strOk "tell" = true ∧ PyData.strOk "call" = true ∧ PyData.strOk "fault" = true ∧
    PyData.strOk "take" = true ∧ PyData.strOk "look" = true ∧ PyData.strOk "way" = true ∧ PyData.strOk "anew" = true ∧ PyData.strOk "clean" = true ∧ PyData.strOk "on" = true ∧ PyData.strOk "dry" = true ∧ PyData.strOk "noway" = true ∧ PyData.strOk "a" = true ∧ PyData.strOk "x" = true := by decide +kernel
theorem hd_ok (e : Ex) : PyData.strOk e.hd = true := by cases e <;> (simp only [hd]; decide +kernel)
def simple : Ex → Bool
  | num _ => true | name _ => true | _ => false
theorem simple_eq (e : Ex) : e.simple = (decide (("num" : Str) = e.hd) || decide (("name" : Str) = e.hd)) := by cases e <;> simp (decide := true) [simple, hd]
theorem hd_num {e : Ex} (h : e.hd = "num") : ∃ i, e = num i := by
  cases e <;> first | exact ⟨_, rfl⟩ | (simp only [hd] at h; exact absurd h (by decide))
def pick : PV → Bool
  | .tup [.str a, _] => inS a "ep"
  | _ => false
def snd : PV → PV
  | .tup [_, b] => b
  | x => x
def zipped (e : Ex) : List PV := List.zipWith (fun a b => PV.tup [a, b]) (signs e.form) e.ops
theorem zipped_parts (e : Ex) : ((e.zipped).filter pick).map snd = e.parts.map pv := by
  cases e <;> kernel_rfl
theorem zipped_two {e : Ex} {x : PV} (h : x ∈ e.zipped) : ∃ c b, x = .tup [.str c, b] := by
  unfold zipped at h
  obtain ⟨i, hi, he⟩ := List.getElem_of_mem h
  rw [List.getElem_zipWith] at he
  subst he
  unfold signs
  simp
def val : Ex → Option Int
  | num i => some i
  | _ => none
theorem val_none {e : Ex} (h : ¬ e.hd = "num") : e.val = none := by
  cases e <;> first | rfl | exact absurd rfl h
/-- folding one -/
def fold1 : Ex → Ex
  | plus a b => match a.val, b.val with
    | some i, some j => num (i + j)
    | _, _ => plus a b
  | less a b => match a.val, b.val with
    | some i, some j => num (if i < j then 1 else 0)
    | _, _ => less a b
  | cond a b c => match a.val with
    | some i => if i = 0 then c else b
    | none => cond a b c
  | lett x a b => if a.simple = true then (match b.val with
    | some _ => b
    | none => lett x a b) else lett x a b
  | look k x a b => if b.simple = true then b else look k x a b
  | way k x a b => if b.simple = true then b else way k x a b
  | anew w t a => if a.simple = true then a else anew w t a
  | clean c b => if (b.simple && !c.tells) = true then b else clean c b
  | e => e
def folded : Ex → Ex
  | num i => num i | name x => name x | read => read
  | plus a b => fold1 (plus a.folded b.folded) | less a b => fold1 (less a.folded b.folded) | cond a b c => fold1 (cond a.folded b.folded c.folded) | lett x a b => fold1 (lett x a.folded b.folded) | tell a => fold1 (tell a.folded)
  | call k a => fold1 (call k a.folded) | fault x a => fold1 (fault x a.folded) | take x a => fold1 (take x a.folded) | look k x a b => fold1 (look k x a.folded b.folded) | way k x a b => fold1 (way k x a.folded b.folded)
  | anew x t a => fold1 (anew x t a.folded) | clean a b => fold1 (clean a.folded b.folded)
end Ex
end Vm
namespace Vm
open PySem
namespace Ex
def zl : Ex → List PV
  | num i => [.tup [.str "n", .int i]] | name x => [.tup [.str "x", .str x]] | plus a b => [.tup [.str "e", a.pv], .tup [.str "e", b.pv]] | less a b => [.tup [.str "e", a.pv], .tup [.str "e", b.pv]]
  | cond a b c => [.tup [.str "e", a.pv], .tup [.str "e", b.pv], .tup [.str "e", c.pv]] | lett x a b => [.tup [.str "x", .str x], .tup [.str "e", a.pv], .tup [.str "e", b.pv]] | read => [] | tell a => [.tup [.str "e", a.pv]]
  | call k a => [.tup [.str "k", .int k], .tup [.str "e", a.pv]] | fault x a => [.tup [.str "x", .str x], .tup [.str "e", a.pv]] | take x a => [.tup [.str "x", .str x], .tup [.str "e", a.pv]]
  | look k x a b => [.tup [.str "x", .str k], .tup [.str "x", .str x], .tup [.str "e", a.pv], .tup [.str "e", b.pv]] | way k x a b => [.tup [.str "w", .str k], .tup [.str "x", .str x], .tup [.str "e", a.pv], .tup [.str "e", b.pv]]
  | anew x t a => [.tup [.str "w", .str x], .tup [.str "t", .int t], .tup [.str "e", a.pv]] | clean a b => [.tup [.str "p", a.pv], .tup [.str "e", b.pv]]
theorem zipped_eq (e : Ex) : e.zipped = e.zl := by cases e <;> kernel_rfl
theorem in_e : inS "e" "ep" = true := by kernel_rfl
theorem in_p : inS "p" "ep" = true := by kernel_rfl
theorem in_n : inS "n" "ep" = false := by kernel_rfl
theorem in_x : inS "x" "ep" = false := by kernel_rfl
theorem in_k : inS "k" "ep" = false := by kernel_rfl
theorem in_w : inS "w" "ep" = false := by kernel_rfl
theorem in_t : inS "t" "ep" = false := by kernel_rfl
/-- the parts folded -/
def fsub : Ex → Ex
  | plus a b => plus a.folded b.folded | less a b => less a.folded b.folded | cond a b c => cond a.folded b.folded c.folded | lett x a b => lett x a.folded b.folded | tell a => tell a.folded
  | call k a => call k a.folded | fault x a => fault x a.folded | take x a => take x a.folded | look k x a b => look k x a.folded b.folded | way k x a b => way k x a.folded b.folded
  | anew x t a => anew x t a.folded | clean a b => clean a.folded b.folded | e => e
theorem folded_eq (e : Ex) : e.folded = e.fsub.fold1 := by cases e <;> rfl
theorem fsub_hd (e : Ex) : e.fsub.hd = e.hd := by cases e <;> rfl
theorem fsub_len (e : Ex) : e.fsub.ops.length = e.zl.length := by cases e <;> rfl
theorem fold1_dep (e : Ex) : e.fold1.dep ≤ e.dep := by
  cases e with
  | plus a b => rw [fold1]; cases a.val <;> cases b.val <;> simp [dep] <;> omega
  | less a b => rw [fold1]; cases a.val <;> cases b.val <;> simp [dep] <;> omega
  | cond a b c =>
    rw [fold1]
    cases a.val with
    | none => exact Nat.le_refl _
    | some i => by_cases h : i = 0 <;> simp [dep, h] <;> omega
  | lett x a b => rw [fold1]; cases a.simple <;> cases b.val <;> simp [dep] <;> omega
  | look k x a b => rw [fold1]; cases b.simple <;> simp [dep] <;> omega
  | way k x a b => rw [fold1]; cases b.simple <;> simp [dep] <;> omega
  | anew x t a => rw [fold1]; cases a.simple <;> simp [dep] <;> omega
  | clean a b => rw [fold1]; cases (b.simple && !a.tells) <;> simp [dep] <;> omega
  | _ => exact Nat.le_refl _
theorem folded_dep (e : Ex) : e.folded.dep ≤ e.dep := by
  induction e with
  | num _ => exact Nat.le_refl _
  | name _ => exact Nat.le_refl _
  | read => exact Nat.le_refl _
  | _ => exact Nat.le_trans (fold1_dep _) (by simp only [dep]; omega)
theorem fsub_dep (e : Ex) : e.fsub.dep ≤ e.dep := by
  cases e with
  | plus a b => have := a.folded_dep; have := b.folded_dep; simp only [fsub, dep]; omega
  | less a b => have := a.folded_dep; have := b.folded_dep; simp only [fsub, dep]; omega
  | cond a b c => have := a.folded_dep; have := b.folded_dep; have := c.folded_dep; simp only [fsub, dep]; omega
  | lett x a b => have := a.folded_dep; have := b.folded_dep; simp only [fsub, dep]; omega
  | tell a => have := a.folded_dep; simp only [fsub, dep]; omega
  | call k a => have := a.folded_dep; simp only [fsub, dep]; omega
  | fault k a => have := a.folded_dep; simp only [fsub, dep]; omega
  | take k a => have := a.folded_dep; simp only [fsub, dep]; omega
  | look k x a b => have := a.folded_dep; have := b.folded_dep; simp only [fsub, dep]; omega
  | way k x a b => have := a.folded_dep; have := b.folded_dep; simp only [fsub, dep]; omega
  | anew k x a => have := a.folded_dep; simp only [fsub, dep]; omega
  | clean a b => have := a.folded_dep; have := b.folded_dep; simp only [fsub, dep]; omega
  | _ => exact Nat.le_refl _
theorem zl_at {e : Ex} {i : Nat} {x : PV} (h : e.zl[i]? = some x) : ∃ c b, x = .tup [.str c, b] ∧ ((inS c "ep" = true ∧ ∃ p, p ∈ e.parts ∧ b = p.pv ∧ e.fsub.ops[i]? = some p.folded.pv) ∨ (inS c "ep" = false ∧ e.fsub.ops[i]? = some b)) := by
  cases e <;> rcases i with _ | _ | _ | _ | i <;> simp only [zl, List.getElem?_cons_zero, List.getElem?_cons_succ, List.getElem?_nil, Option.some.injEq, reduceCtorEq] at h <;> subst h <;>
    first
    | exact ⟨_, _, rfl, .inl ⟨in_e, _, by simp [parts], rfl, rfl⟩⟩
    | exact ⟨_, _, rfl, .inl ⟨in_e, _, List.mem_cons_of_mem _ List.mem_cons_self, rfl, rfl⟩⟩
    | exact ⟨_, _, rfl, .inl ⟨in_e, _, List.mem_cons_of_mem _ (List.mem_cons_of_mem _ List.mem_cons_self), rfl, rfl⟩⟩
    | exact ⟨_, _, rfl, .inl ⟨in_p, _, List.mem_cons_self, rfl, rfl⟩⟩
    | exact ⟨_, _, rfl, .inr ⟨in_n, rfl⟩⟩
    | exact ⟨_, _, rfl, .inr ⟨in_x, rfl⟩⟩
    | exact ⟨_, _, rfl, .inr ⟨in_k, rfl⟩⟩
    | exact ⟨_, _, rfl, .inr ⟨in_w, rfl⟩⟩
    | exact ⟨_, _, rfl, .inr ⟨in_t, rfl⟩⟩
end Ex
end Vm
namespace Vm
theorem W_zip {a b : ME PV} {σ : Sl} {g : G} {Q : Src → G → Prop} : W (iZip a b) σ g Q = W a σ g fun x g1 => W b σ g1 fun y g2 => match bsOf x g2, bsOf y g2 with
    | some p, some q => Q (.zip p q) g2
    | _, _ => False := by
  unfold iZip
  rw [W_bind]; congr; funext x g1; rw [W_bind]; congr; funext y g2
  unfold W
  dsimp only
  cases bsOf x g2 <;> cases bsOf y g2 <;> rfl
end Vm
end

section
set_option maxRecDepth 100000
set_option maxHeartbeats 4000000
/-! VmV: data without anything mutable; expressions that are well made; what folding keeps. -/
namespace Vm
open PySem

mutual
/-- data alone, of texts that can be laid -/
def pdat : PV → Bool
  | .ref _ => false | .sd _ => false | .str x => PyData.strOk x | .tup l => pdats l | .kt l => pdats l | .non => true | .bl _ => true | .int _ => true
def pdats : List PV → Bool
  | [] => true
  | a :: r => pdat a && pdats r
end
mutual
def psz : PV → Nat
  | .tup l => 1 + pszs l | .kt l => 1 + pszs l | .ref _ => 1 | .sd _ => 1 | .str _ => 1 | .non => 1 | .bl _ => 1 | .int _ => 1
def pszs : List PV → Nat
  | [] => 1
  | a :: r => 1 + psz a + pszs r
end
mutual
def pdp : PV → Nat
  | .tup l => pdps l + 1 | .kt l => pdps l + 1 | .ref _ => 0 | .sd _ => 0 | .str _ => 0 | .non => 0 | .bl _ => 0 | .int _ => 0
def pdps : List PV → Nat
  | [] => 0
  | a :: r => max (pdp a) (pdps r)
end
mutual
theorem dat_pure (g : G) : ∀ (v : PV) (n : Nat), pdat v = true → psz v ≤ n → dat g n v = some (dpv v)
  | .non, n + 1, _, _ => rfl
  | .bl _, n + 1, _, _ => rfl
  | .int _, n + 1, _, _ => rfl
  | .str _, n + 1, _, _ => rfl
  | .tup l, n + 1, h, h2 => by
    rw [dat, dats_pure g l n (by simpa [pdat] using h) (by rw [psz] at h2; omega)]; rfl
  | .kt l, n + 1, h, h2 => by
    rw [dat, dats_pure g l n (by simpa [pdat] using h) (by rw [psz] at h2; omega)]; rfl
  | .ref _, _, h, _ => by simp [pdat] at h
  | .sd _, _, h, _ => by simp [pdat] at h
  | .non, 0, _, h2 => by simp [psz] at h2
  | .bl _, 0, _, h2 => by simp [psz] at h2
  | .int _, 0, _, h2 => by simp [psz] at h2
  | .str _, 0, _, h2 => by simp [psz] at h2
  | .tup _, 0, _, h2 => by simp [psz] at h2
  | .kt _, 0, _, h2 => by simp [psz] at h2
theorem dats_pure (g : G) : ∀ (l : List PV) (n : Nat), pdats l = true → pszs l ≤ n → dats g n l = some (dpvs l)
  | [], 0, _, h => by simp [pszs] at h
  | [], n + 1, _, _ => rfl
  | a :: r, 0, _, h => by rw [pszs] at h; omega
  | a :: r, n + 1, h1, h2 => by
    have h1' : pdat a = true ∧ pdats r = true := by simpa [pdats] using h1
    rw [pszs] at h2
    rw [dats, dat_pure g a n h1'.1 (by omega), dats_pure g r n h1'.2 (by omega)]; rfl
end
mutual
theorem lay_pure : ∀ v : PV, pdat v = true → (dpv v).canLay0 = true
  | .non, _ => rfl
  | .bl _, _ => rfl
  | .int _, _ => rfl
  | .str x, h => by simpa [dpv, PyData.canLay0, pdat] using h
  | .tup l, h => by rw [dpv, PyData.canLay0]; exact lays_pure l (by simpa [pdat] using h)
  | .kt l, h => by rw [dpv, PyData.canLay0]; exact lays_pure l (by simpa [pdat] using h)
  | .ref _, h => by simp [pdat] at h
  | .sd _, h => by simp [pdat] at h
theorem lays_pure : ∀ l : List PV, pdats l = true → PyData.canLayAll0 (dpvs l) = true
  | [], _ => rfl
  | a :: r, h1 => by
    have h1' : pdat a = true ∧ pdats r = true := by simpa [pdats] using h1
    rw [dpvs, PyData.canLayAll0, lay_pure a h1'.1, lays_pure r h1'.2]; rfl
end
mutual
theorem dep_pure : ∀ v : PV, (dpv v).depth ≤ pdp v
  | .non => Nat.le_refl _
  | .bl _ => Nat.le_refl _
  | .int _ => Nat.le_refl _
  | .str x => Nat.le_refl _
  | .tup l => by rw [dpv, PyData.depth, pdp]; exact Nat.add_le_add_right (deps_pure l) 1
  | .kt l => by rw [dpv, PyData.depth, pdp]; exact Nat.add_le_add_right (deps_pure l) 1
  | .ref _ => Nat.le_refl _
  | .sd _ => Nat.le_refl _
theorem deps_pure : ∀ l : List PV, PyData.depthAll (dpvs l) ≤ pdps l
  | [] => Nat.le_refl _
  | a :: r => by
    have h1 := dep_pure a
    have h2 := deps_pure r
    rw [dpvs, PyData.depthAll, pdps]; omega
end
theorem shaped_pure {v : PV} (h : pdat v = true) (h2 : pdp v ≤ 64) : SeqAt.shaped (dpv v) = true := by
  unfold SeqAt.shaped
  rw [lay_pure v h, decide_eq_true (Nat.le_trans (dep_pure v) h2)]; rfl
/-- data of some part of what can be compared -/
structure Dat (v : PV) : Prop where
  pdat : pdat v = true
  sz : psz v ≤ deepF
  dp : pdp v ≤ 64
theorem eqP_pure {g : G} {x y : PV} (hx : Dat x) (hy : Dat y) : eqP g x y = some (PyData.eqv (dpv x) (dpv y)) := by
  unfold eqP
  rw [dat_pure g x _ hx.pdat hx.sz, dat_pure g y _ hy.pdat hy.sz]
  simp [shaped_pure hx.pdat hx.dp, shaped_pure hy.pdat hy.dp]
theorem O_eq_same (g : G) (Q : PV → G → Prop) {x : PV} (hx : Dat x) : O (opEq x x g) Q = Q (.bl true) g := by
  simp [O, opEq, eqP_pure hx hx, SeqAt.eqv_refl _ (lay_pure _ hx.pdat)]
theorem O_ne_same (g : G) (Q : PV → G → Prop) {x : PV} (hx : Dat x) : O (opNe x x g) Q = Q (.bl false) g := by
  simp [O, opNe, eqP_pure hx hx, SeqAt.eqv_refl _ (lay_pure _ hx.pdat)]
theorem O_eq_tnil (g : G) (Q : PV → G → Prop) {x : PV} {l : List PV} (hx : Dat (.tup (x :: l))) : O (opEq (.tup (x :: l)) (.tup []) g) Q = Q (.bl false) g := by
  have : Dat (.tup []) := ⟨rfl, by decide, by decide⟩
  simp [O, opEq, eqP_pure hx this, dpv, dpvs, PyData.eqv, PyData.eqvAll]

/-! ### lists of data -/
theorem pdats_map {α : Type} {f : α → PV} {l : List α} (h : ∀ a ∈ l, pdat (f a) = true) : pdats (l.map f) = true := by
  induction l with
  | nil => rfl
  | cons a r ih => rw [List.map_cons, pdats, h a List.mem_cons_self, ih fun b hb => h b (List.mem_cons_of_mem _ hb)]; rfl
theorem pszs_map {α : Type} {f : α → PV} {l : List α} {n : Nat} (h : ∀ a ∈ l, psz (f a) ≤ n) : pszs (l.map f) ≤ 1 + l.length * (n + 1) := by
  induction l with
  | nil => simp [pszs]
  | cons a r ih =>
    have h1 := h a List.mem_cons_self
    have h2 := ih fun b hb => h b (List.mem_cons_of_mem _ hb)
    rw [List.map_cons, pszs, List.length_cons, Nat.succ_mul]; omega
theorem pdps_map {α : Type} {f : α → PV} {l : List α} {n : Nat} (h : ∀ a ∈ l, pdp (f a) ≤ n) : pdps (l.map f) ≤ n := by
  induction l with
  | nil => simp [pdps]
  | cons a r ih =>
    have h1 := h a List.mem_cons_self
    have h2 := ih fun b hb => h b (List.mem_cons_of_mem _ hb)
    rw [List.map_cons, pdps]; omega
theorem eqP_lists {g : G} {p q : Nat} {l m : List PV} (hp : g[p]? = some (.lst l)) (hq : g[q]? = some (.lst m)) (hl : Dat (.tup l)) (hm : Dat (.tup m)) :
    eqP g (.ref p) (.ref q) = some (PyData.eqvAll (dpvs l) (dpvs m)) := by
  have e1 : dat g deepF (.ref p) = some (.list (dpvs l)) := by
    have h1 := hl.pdat
    have h2 := hl.sz
    rw [pdat] at h1
    rw [psz] at h2
    unfold deepF at h2 ⊢
    simp only [dat, hp, dats_pure g l 99999 h1 (by omega)]
  have e2 : dat g deepF (.ref q) = some (.list (dpvs m)) := by
    have h1 := hm.pdat
    have h2 := hm.sz
    rw [pdat] at h1
    rw [psz] at h2
    unfold deepF at h2 ⊢
    simp only [dat, hq, dats_pure g m 99999 h1 (by omega)]
  have s1 : SeqAt.shaped (.list (dpvs l)) = true := by
    have := shaped_pure hl.pdat hl.dp
    simpa [SeqAt.shaped, dpv, PyData.canLay0, PyData.depth] using this
  have s2 : SeqAt.shaped (.list (dpvs m)) = true := by
    have := shaped_pure hm.pdat hm.dp
    simpa [SeqAt.shaped, dpv, PyData.canLay0, PyData.depth] using this
  unfold eqP
  rw [e1, e2]
  simp [s1, s2, PyData.eqv]
theorem O_ne_lnil {g : G} {Q : PV → G → Prop} {p q : Nat} {l : List PV} (hp : g[p]? = some (.lst l)) (hq : g[q]? = some (.lst [])) (hl : Dat (.tup l)) : O (opNe (.ref p) (.ref q) g) Q = Q (.bl (!l.isEmpty)) g := by
  have := eqP_lists hp hq hl (m := []) ⟨rfl, by decide, by decide⟩
  cases l <;> simp [O, opNe, this, dpvs, PyData.eqvAll]
theorem O_eq_lnil {g : G} {Q : PV → G → Prop} {p q : Nat} {l : List PV} (hp : g[p]? = some (.lst l)) (hq : g[q]? = some (.lst [])) (hl : Dat (.tup l)) : O (opEq (.ref p) (.ref q) g) Q = Q (.bl l.isEmpty) g := by
  have := eqP_lists hp hq hl (m := []) ⟨rfl, by decide, by decide⟩
  cases l <;> simp [O, opEq, this, dpvs, PyData.eqvAll]

/-! ### well made -/
def letters : Str := "abcdefghijklmnopqrstuvwxyz"
def nameOk (x : Str) : Bool := (decide (1 ≤ x.length) && decide (x.length ≤ 8)) && (x.cps.toList.all fun c => inS ⟨#[c]⟩ letters) && PyData.strOk x
theorem nameOk_str {x : Str} (h : nameOk x = true) : PyData.strOk x = true := by
  unfold nameOk at h
  simp only [Bool.and_eq_true] at h
  exact h.2
namespace Ex
/-- an expression of a body; plain: made of plain words alone -/
def ok (body : Int) : Bool → Ex → Bool
  | _, num _ => true
  | _, name x => nameOk x
  | p, plus a b => a.ok body p && b.ok body p
  | p, less a b => a.ok body p && b.ok body p
  | p, cond a b c => a.ok body p && (b.ok body p && c.ok body p)
  | p, lett x a b => nameOk x && (a.ok body p && b.ok body p)
  | p, read => !p
  | p, tell a => a.ok body p
  | p, call k a => !p && ((decide (0 ≤ k) && decide (k < body)) && a.ok body p)
  | p, fault x a => !p && (nameOk x && a.ok body p)
  | p, take x a => !p && (nameOk x && a.ok body p)
  | p, look k x a b => !p && ((nameOk k && nameOk x) && (a.ok body p && b.ok body p))
  | p, way k x a b => !p && (((nameOk k && !decide (k = "on")) && nameOk x) && (a.ok body p && b.ok body p))
  | p, anew x t a => !p && (((nameOk x && !decide (x = "on")) && (decide (0 ≤ t) && decide (t ≤ 3))) && a.ok body p)
  | p, clean c a => !p && (c.ok body true && a.ok body p)
theorem ok_plain {body : Int} {e : Ex} : ∀ {p : Bool}, e.ok body true = true → e.ok body p = true := by
  intro p h
  cases p with
  | true => exact h
  | false =>
    induction e with
    | num _ => rfl
    | name x => exact h
    | plus a b ha hb => simp only [ok, Bool.and_eq_true] at h ⊢; exact ⟨ha h.1, hb h.2⟩
    | less a b ha hb => simp only [ok, Bool.and_eq_true] at h ⊢; exact ⟨ha h.1, hb h.2⟩
    | cond a b c ha hb hc => simp only [ok, Bool.and_eq_true] at h ⊢; exact ⟨ha h.1, hb h.2.1, hc h.2.2⟩
    | lett x a b ha hb => simp only [ok, Bool.and_eq_true] at h ⊢; exact ⟨h.1, ha h.2.1, hb h.2.2⟩
    | tell a ha => simp only [ok] at h ⊢; exact ha h
    | _ => simp [ok] at h
theorem ok_fold1 {body : Int} {p : Bool} {e : Ex} (h : e.ok body p = true) : e.fold1.ok body p = true := by
  cases e with
  | plus a b => rw [fold1]; cases a.val <;> cases b.val <;> first | rfl | exact h
  | less a b => rw [fold1]; cases a.val <;> cases b.val <;> first | rfl | exact h
  | cond a b c =>
    rw [fold1]
    cases a.val with
    | none => exact h
    | some i =>
      simp only [ok, Bool.and_eq_true] at h
      by_cases hi : i = 0
      · simp only [hi, if_true]; exact h.2.2
      · simp only [hi, if_false]; exact h.2.1
  | lett x a b =>
    rw [fold1]
    cases a.simple with
    | false => exact h
    | true =>
      cases b.val with
      | none => exact h
      | some _ => simp only [ok, Bool.and_eq_true] at h; exact h.2.2
  | look k x a b =>
    rw [fold1]
    cases b.simple with
    | false => exact h
    | true => simp only [ok, Bool.and_eq_true] at h; exact h.2.2.2
  | way k x a b =>
    rw [fold1]
    cases b.simple with
    | false => exact h
    | true => simp only [ok, Bool.and_eq_true] at h; exact h.2.2.2
  | anew x t a =>
    rw [fold1]
    cases a.simple with
    | false => exact h
    | true => simp only [ok, Bool.and_eq_true] at h; exact h.2.2
  | clean c a =>
    rw [fold1]
    cases (a.simple && !c.tells) with
    | false => exact h
    | true => simp only [ok, Bool.and_eq_true] at h; exact h.2.2
  | _ => exact h
theorem ok_folded {body : Int} {e : Ex} : ∀ {p : Bool}, e.ok body p = true → e.folded.ok body p = true := by
  induction e with
  | num _ => exact fun h => h
  | name _ => exact fun h => h
  | read => exact fun h => h
  | plus a b ha hb => intro p h; refine ok_fold1 ?_; simp only [ok, Bool.and_eq_true] at h ⊢; exact ⟨ha h.1, hb h.2⟩
  | less a b ha hb => intro p h; refine ok_fold1 ?_; simp only [ok, Bool.and_eq_true] at h ⊢; exact ⟨ha h.1, hb h.2⟩
  | cond a b c ha hb hc => intro p h; refine ok_fold1 ?_; simp only [ok, Bool.and_eq_true] at h ⊢; exact ⟨ha h.1, hb h.2.1, hc h.2.2⟩
  | lett x a b ha hb => intro p h; refine ok_fold1 ?_; simp only [ok, Bool.and_eq_true] at h ⊢; exact ⟨h.1, ha h.2.1, hb h.2.2⟩
  | tell a ha => intro p h; refine ok_fold1 ?_; simp only [ok] at h ⊢; exact ha h
  | call k a ha => intro p h; refine ok_fold1 ?_; simp only [ok, Bool.and_eq_true] at h ⊢; exact ⟨h.1, h.2.1, ha h.2.2⟩
  | fault x a ha => intro p h; refine ok_fold1 ?_; simp only [ok, Bool.and_eq_true] at h ⊢; exact ⟨h.1, h.2.1, ha h.2.2⟩
  | take x a ha => intro p h; refine ok_fold1 ?_; simp only [ok, Bool.and_eq_true] at h ⊢; exact ⟨h.1, h.2.1, ha h.2.2⟩
  | look k x a b ha hb => intro p h; refine ok_fold1 ?_; simp only [ok, Bool.and_eq_true] at h ⊢; exact ⟨h.1, h.2.1, ha h.2.2.1, hb h.2.2.2⟩
  | way k x a b ha hb => intro p h; refine ok_fold1 ?_; simp only [ok, Bool.and_eq_true] at h ⊢; exact ⟨h.1, h.2.1, ha h.2.2.1, hb h.2.2.2⟩
  | anew x t a ha => intro p h; refine ok_fold1 ?_; simp only [ok, Bool.and_eq_true] at h ⊢; exact ⟨h.1, h.2.1, ha h.2.2⟩
  | clean c a hc ha => intro p h; refine ok_fold1 ?_; simp only [ok, Bool.and_eq_true] at h ⊢; exact ⟨h.1, hc h.2.1, ha h.2.2⟩
theorem count_pos (e : Ex) : 1 ≤ e.count := by
  induction e <;> simp only [count] <;> omega
theorem count_fold1 (e : Ex) : e.fold1.count ≤ e.count := by
  cases e with
  | plus a b => have := a.count_pos; have := b.count_pos; rw [fold1]; cases a.val <;> cases b.val <;> simp [count] <;> omega
  | less a b => have := a.count_pos; have := b.count_pos; rw [fold1]; cases a.val <;> cases b.val <;> simp [count] <;> omega
  | cond a b c =>
    have := a.count_pos; have := b.count_pos; have := c.count_pos
    rw [fold1]
    cases a.val with
    | none => exact Int.le_refl _
    | some i => by_cases h : i = 0 <;> simp [count, h] <;> omega
  | lett x a b => have := a.count_pos; have := b.count_pos; rw [fold1]; cases a.simple <;> cases b.val <;> simp [count] <;> omega
  | look k x a b => have := a.count_pos; have := b.count_pos; rw [fold1]; cases b.simple <;> simp [count] <;> omega
  | way k x a b => have := a.count_pos; have := b.count_pos; rw [fold1]; cases b.simple <;> simp [count] <;> omega
  | anew x t a => have := a.count_pos; rw [fold1]; cases a.simple <;> simp [count] <;> omega
  | clean a b => have := a.count_pos; have := b.count_pos; rw [fold1]; cases (b.simple && !a.tells) <;> simp [count] <;> omega
  | _ => exact Int.le_refl _
theorem count_folded (e : Ex) : e.folded.count ≤ e.count := by
  induction e with
  | num _ => exact Int.le_refl _
  | name _ => exact Int.le_refl _
  | read => exact Int.le_refl _
  | _ => refine Int.le_trans (count_fold1 _) ?_; simp only [count]; omega
theorem fold1_fold (e : Ex) (h : ∀ p ∈ e.parts, p.folded = p) : e.fold1.folded = e.fold1 := by
  have key : e.fsub = e := by
    cases e <;> simp only [fsub] <;> simp only [parts, List.mem_cons, List.not_mem_nil, or_false, forall_eq_or_imp, forall_eq] at h <;> first | rfl | simp only [h]
  have stay : e.fold1 = e → e.fold1.folded = e.fold1 := by
    intro he
    rw [he, folded_eq, key, he]
  cases e with
  | plus a b => rw [fold1] at stay ⊢; generalize a.val = va at stay ⊢; generalize b.val = vb at stay ⊢; cases va <;> cases vb <;> first | exact stay rfl | rfl
  | less a b => rw [fold1] at stay ⊢; generalize a.val = va at stay ⊢; generalize b.val = vb at stay ⊢; cases va <;> cases vb <;> first | exact stay rfl | rfl
  | cond a b c =>
    rw [fold1] at stay ⊢
    cases ha : a.val with
    | none => rw [ha] at stay; exact stay rfl
    | some i =>
      by_cases hi : i = 0
      · simp only [hi, if_true]; exact h c (by simp [parts])
      · simp only [hi, if_false]; exact h b (by simp [parts])
  | lett x a b =>
    rw [fold1] at stay ⊢
    cases ha : a.simple with
    | false => rw [ha] at stay; exact stay rfl
    | true =>
      cases hb : b.val with
      | none => rw [ha, hb] at stay; exact stay rfl
      | some _ => exact h b (by simp [parts])
  | look k x a b =>
    rw [fold1] at stay ⊢
    cases ha : b.simple with
    | false => rw [ha] at stay; exact stay rfl
    | true => exact h b (by simp [parts])
  | way k x a b =>
    rw [fold1] at stay ⊢
    cases ha : b.simple with
    | false => rw [ha] at stay; exact stay rfl
    | true => exact h b (by simp [parts])
  | anew x t a =>
    rw [fold1] at stay ⊢
    cases ha : a.simple with
    | false => rw [ha] at stay; exact stay rfl
    | true => exact h a (by simp [parts])
  | clean c a =>
    rw [fold1] at stay ⊢
    cases ha : (a.simple && !c.tells) with
    | false => rw [ha] at stay; exact stay rfl
    | true => exact h a (by simp [parts])
  | _ => exact stay rfl
/-- a fold is its own fold -/
theorem folded_idem (e : Ex) : e.folded.folded = e.folded := by
  induction e with
  | num _ => rfl
  | name _ => rfl
  | read => rfl
  | _ => rw [folded]; refine fold1_fold _ ?_; simp only [parts, List.mem_cons, List.not_mem_nil, or_false, forall_eq_or_imp, forall_eq]; simp only [*, and_self]

/-! data of expressions -/
theorem pdat_pv {body : Int} {e : Ex} : ∀ {p : Bool}, e.ok body p = true → pdat e.pv = true := by
  have w := ok_words
  induction e with
  | num i => intro p h; simp [pv, pdat, pdats, w]
  | name x => intro p h; simp only [ok] at h; simp [pv, pdat, pdats, w, nameOk_str h]
  | read => intro p h; simp [pv, pdat, pdats, w]
  | plus a b ha hb => intro p h; simp only [ok, Bool.and_eq_true] at h; simp [pv, pdat, pdats, w, ha h.1, hb h.2]
  | less a b ha hb => intro p h; simp only [ok, Bool.and_eq_true] at h; simp [pv, pdat, pdats, w, ha h.1, hb h.2]
  | cond a b c ha hb hc => intro p h; simp only [ok, Bool.and_eq_true] at h; simp [pv, pdat, pdats, w, ha h.1, hb h.2.1, hc h.2.2]
  | lett x a b ha hb => intro p h; simp only [ok, Bool.and_eq_true] at h; simp [pv, pdat, pdats, w, nameOk_str h.1, ha h.2.1, hb h.2.2]
  | tell a ha => intro p h; simp only [ok] at h; simp [pv, pdat, pdats, w, ha h]
  | call k a ha => intro p h; simp only [ok, Bool.and_eq_true] at h; simp [pv, pdat, pdats, w, ha h.2.2]
  | fault x a ha => intro p h; simp only [ok, Bool.and_eq_true] at h; simp [pv, pdat, pdats, w, nameOk_str h.2.1, ha h.2.2]
  | take x a ha => intro p h; simp only [ok, Bool.and_eq_true] at h; simp [pv, pdat, pdats, w, nameOk_str h.2.1, ha h.2.2]
  | look k x a b ha hb => intro p h; simp only [ok, Bool.and_eq_true] at h; simp [pv, pdat, pdats, w, nameOk_str h.2.1.1, nameOk_str h.2.1.2, ha h.2.2.1, hb h.2.2.2]
  | way k x a b ha hb => intro p h; simp only [ok, Bool.and_eq_true] at h; simp [pv, pdat, pdats, w, nameOk_str h.2.1.1.1, nameOk_str h.2.1.2, ha h.2.2.1, hb h.2.2.2]
  | anew x t a ha => intro p h; simp only [ok, Bool.and_eq_true] at h; simp [pv, pdat, pdats, w, nameOk_str h.2.1.1.1, ha h.2.2]
  | clean c a hc ha => intro p h; simp only [ok, Bool.and_eq_true] at h; simp [pv, pdat, pdats, w, hc h.2.1, ha h.2.2]
theorem pdp_pv (e : Ex) : pdp e.pv ≤ e.dep := by
  induction e <;> simp only [pv, pdp, pdps, dep] <;> omega
theorem psz_pv (e : Ex) : (psz e.pv : Int) ≤ 10 * e.count := by
  induction e <;> simp only [pv, psz, pszs, count] <;> omega
theorem Dat_pv {body : Int} {p : Bool} {e : Ex} (h : e.ok body p = true) (h2 : e.dep ≤ 60) (h3 : e.count ≤ 1000) : Dat e.pv :=
  ⟨pdat_pv h, by have := e.psz_pv; unfold deepF; omega, Nat.le_trans e.pdp_pv (by omega)⟩
end Ex
end Vm
namespace Vm
open PySem
/-! ### the tape -/
/-- a tape: the drawn numbers, how many were taken -/
def TP (t k : Nat) (g : G) : Prop := ∃ (d : Nat) (xs : List Int), g[t]? = some (.lst [.ref d, .int k]) ∧ g[d]? = some (.lst (xs.map .int)) ∧ xs.length = 400 ∧ (∀ x ∈ xs, 0 ≤ x ∧ x < 1000000) ∧ d ≠ t
theorem TP.keep {t k : Nat} {g g' : G} {S : List Nat} (T : TP t k g) (f : Fr S g g') (h : ∀ d o, g[d]? = some o → (d = t ∨ ∃ l, o = .lst l ∧ l.length = 400) → d ∉ S) : TP t k g' := by
  obtain ⟨d, xs, h1, h2, h3, h4, h5⟩ := T
  exact ⟨d, xs, f.get h1 (h _ _ h1 (.inl rfl)), f.get h2 (h _ _ h2 (.inr ⟨_, rfl, by simpa using h3⟩)), h3, h4, h5⟩
theorem TP.app {t k : Nat} {g : G} (T : TP t k g) (m : G) : TP t k (g ++ m) := T.keep (S := []) (Fr.app m) fun _ _ _ _ h => by cases h
end Vm
end

section
set_option maxRecDepth 100000
set_option maxHeartbeats 4000000
/-! VmW: dict displays; comprehensions over a range that draw from a tape; the generator's state. -/
namespace Vm
open PySem
open L2 (Key)

theorem W_dct {ps : List (ME PV × ME PV)} {σ : Sl} {g : G} {Q : PV → G → Prop} : W (eDct ps) σ g Q = W (ePairs ps) σ (g ++ [.dk []]) fun kvs g' => match g'[g.length]? with
    | some (.dk []) => Q (.ref g.length) (g'.set g.length (.dk (mergeD [] kvs)))
    | _ => False := by
  unfold W eDct
  cases h : ePairs ps σ (g ++ [.dk []]) with
  | none => rfl
  | some r =>
    cases r with
    | exc x g' => rfl
    | ok kvs g' =>
      dsimp only
      generalize g'[g.length]? = o
      cases o with
      | none => rfl
      | some x =>
        cases x with
        | dk kv => cases kv <;> rfl
        | _ => rfl
theorem W_pnil {σ : Sl} {g : G} {Q : List (Key × PV) → G → Prop} : W (ePairs []) σ g Q = Q [] g := rfl
theorem W_pcons {k v : ME PV} {r : List (ME PV × ME PV)} {σ : Sl} {g : G} {Q : List (Key × PV) → G → Prop} : W (ePairs ((k, v) :: r)) σ g Q = W k σ g fun x g1 => W v σ g1 fun y g2 => W (ePairs r) σ g2 fun ps g3 => match keyOf x with
    | some q => Q ((q, y) :: ps) g3
    | none => False := by
  rw [ePairs, W_bind]; congr; funext x g1; rw [W_bind]; congr; funext y g2; rw [W_bind]; congr; funext ps g3
  unfold W
  dsimp only
  cases keyOf x <;> rfl
theorem keyOf_str (x : Str) : keyOf (.str x) = some (.inr x) := rfl
theorem new_at {g : G} {o : GO} : (g ++ [o])[g.length]? = some o := by simp
theorem new_set {g : G} {o o' : GO} : (g ++ [o]).set g.length o' = g ++ [o'] := by simp
theorem putD_new {κ α : Type} [DecidableEq κ] {l : List (κ × α)} {k : κ} {v : α} (h : k ∉ l.map (·.1)) : putD l k v = l ++ [(k, v)] := by
  unfold putD
  rw [if_neg]
  intro q
  rw [List.any_eq_true] at q
  obtain ⟨x, hx, e⟩ := q
  exact h (by rw [← of_decide_eq_true e]; exact List.mem_map_of_mem hx)
theorem mergeD_app {κ α : Type} [DecidableEq κ] : ∀ (m l : List (κ × α)), ((l ++ m).map (·.1)).Nodup → mergeD l m = l ++ m
  | [], l, _ => by simp [mergeD]
  | (k, v) :: r, l, h => by
    have hk : k ∉ l.map (·.1) := by
      rw [List.map_append, List.map_cons] at h
      have := (List.nodup_append.mp h).2.2
      intro q
      exact this _ q _ List.mem_cons_self rfl
    have e : mergeD l ((k, v) :: r) = mergeD (putD l k v) r := rfl
    rw [e, putD_new hk, mergeD_app r (l ++ [(k, v)]) (by simpa using h)]
    simp
theorem mergeD_nil {κ α : Type} [DecidableEq κ] {m : List (κ × α)} (ks : List κ) (e : m.map (·.1) = ks) (h : ks.Nodup) : mergeD [] m = m := by
  have := mergeD_app m [] (by rw [List.nil_append, e]; exact h)
  simpa using this
theorem O_get {g : G} {Q : PV → G → Prop} {r : Nat} {kvs : List (Key × PV)} {w : Str} {d : PV} (h : g[r]? = some (.dk kvs)) : O (mGet [.ref r, .str w, d] g) Q = Q ((look kvs (.inr w)).getD d) g := by
  simp [O, mGet, getD, h]
theorem dk_isD {g : G} {r : Nat} {kvs : List (Key × PV)} (h : g[r]? = some (.dk kvs)) : isD (.ref r) g = true := by simp [isD, h]
theorem look_nil {α : Type} {w : Key} : look ([] : List (Key × α)) w = none := rfl
theorem look_cons {α : Type} {k w : Key} {v : α} {r : List (Key × α)} : look ((k, v) :: r) w = if k = w then some v else look r w := by
  unfold look
  rw [List.find?_cons]
  by_cases h : k = w <;> simp [h]
theorem O_ix2 {g : G} {Q : PV → G → Prop} {r : Nat} {a b : PV} {c : Prop} [Decidable c] (h : g[r]? = some (.lst [a, b])) : O (opIx (.ref r) (.int (if decide c = true then 1 else 0)) g) Q = if c then Q b g else Q a g := by
  by_cases hc : c
  · simp only [hc, decide_true, if_true]
    exact O_ix_l g Q h (atI_ok (by decide) rfl)
  · simp only [hc, decide_false, if_false, Bool.false_eq_true]
    exact O_ix_l g Q h (atI_ok (by decide) rfl)
/-- some one of a list is taken -/
theorem O_some_of {g : G} {Q : PV → G → Prop} {r : Nat} {l : List PV} {v : Int} (h : g[r]? = some (.lst l)) (h0 : 0 ≤ v) (h1 : v < l.length) (q : ∀ x ∈ l, Q x g) : O (opIx (.ref r) (.int v) g) Q := by
  have hv : v.toNat < l.length := by omega
  rw [O_ix_l g Q h (v := l[v.toNat]) (atI_ok h0 (List.getElem?_eq_getElem hv))]
  exact q _ (List.getElem_mem hv)
theorem t_p6 (g : G) (Q : PV → G → Prop) : O (opPow (.int 10) (.int 6) g) Q = Q (.int 1000000) g := by
  have h : opPow (.int 10) (.int 6) g = some (.int ((10 : Int) ^ (6 : Int).toNat), g) := by
    show (if ((0 : Int) ≤ 6 ∧ (6 : Int) ≤ 1000000) ∧ (10 : Int).natAbs < 2 ^ 64 then some (PV.int ((10 : Int) ^ (6 : Int).toNat), g) else none) = _
    exact if_pos (by decide)
  have e : (10 : Int) ^ (6 : Int).toNat = 1000000 := by decide
  rw [h, e]
  rfl
theorem t_p30 (g : G) (Q : PV → G → Prop) : O (opPow (.int 10) (.int 30) g) Q = Q (.int 1000000000000000000000000000000) g := by
  have h : opPow (.int 10) (.int 30) g = some (.int ((10 : Int) ^ (30 : Int).toNat), g) := by
    show (if ((0 : Int) ≤ 30 ∧ (30 : Int) ≤ 1000000) ∧ (10 : Int).natAbs < 2 ^ 64 then some (PV.int ((10 : Int) ^ (30 : Int).toNat), g) else none) = _
    exact if_pos (by decide)
  have e : (10 : Int) ^ (30 : Int).toNat = 1000000000000000000000000000000 := by decide
  rw [h, e]
  rfl
theorem small_of {i j : Int} (h0 : 0 ≤ i) (h1 : i < 1000000000) : (small64 i || small64 j) = true := by
  unfold small64
  rw [Bool.or_eq_true, Bool.and_eq_true, decide_eq_true_eq, decide_eq_true_eq]
  exact .inl ⟨by omega, by omega⟩

/-! ### a comprehension over a range, whose part changes what J tells of -/
theorem wp_reps {it : MI} {vs : List Nat} {i : Nat} {e : ME PV} {m : Nat} {σ : Sl} {g : G} {Q : PV → G → Prop} (S : List Nat) (b : Nat) (J : Nat → List PV → G → Prop) (hS : ∀ s ∈ S, s < b) (hm : m ≤ 300)
    (hset : ∀ D j acc l l' g, b ≤ D → g[D]? = some (.lst l) → l.length ≤ 300 → J j acc g → J j acc (g.set D (.lst l')))
    (hit : W it σ g fun src g1 => src = .rng 0 1 m ∧ b ≤ g1.length ∧ J 0 [] (g1 ++ [.lst []]))
    (he : ∀ j acc g' (Q' : PV → G → Prop), j < m → J j acc g' → (∀ y g2, J (j + 1) (acc ++ [y]) g2 → Fr S g' g2 → Q' y g2) → W e ((wipeP σ vs).set i (some (.int j))) g' Q')
    (hd : ∀ acc D g', b ≤ D → g'[D]? = some (.lst acc) → acc.length = m → J m acc g' → Q (.ref D) g') : W (eComp it vs (gName i) tYes e) σ g Q := by
  have hl : ((List.range m).map fun (i : Nat) => PV.int (0 + (i : Int) * 1)).length = m := by simp
  refine wp_comp (L := (List.range m).map fun (i : Nat) => PV.int (0 + (i : Int) * 1)) (fun src D j acc g => src = .rng 0 1 m ∧ b ≤ D ∧ g[D]? = some (.lst acc) ∧ acc.length = j ∧ j ≤ m ∧ J j acc g) (by rw [hl]; unfold big; omega) ?_ ?_ ?_ ?_
  · refine W_mono hit ?_
    rintro src g1 ⟨rfl, h1, h2⟩
    exact ⟨items_rng 0 1 m g1, rfl, h1, by simp, rfl, Nat.zero_le _, h2⟩
  · rintro src D j acc g ⟨rfl, h1, h2, h3, h4, h5⟩
    exact ⟨items_rng 0 1 m g, h2, by omega⟩
  · rintro src D j x acc g hx ⟨rfl, h1, h2, h3, h4, h5⟩
    have hj : j < m := by
      have := (List.getElem?_eq_some_iff.mp hx).1
      rwa [hl] at this
    obtain rfl : x = .int j := by
      rw [List.getElem?_map, List.getElem?_range hj] at hx
      have := Option.some.inj hx
      rw [← this]
      simp
    refine ⟨_, rfl, ?_⟩
    rw [W_yes, if_pos rfl]
    refine he j acc g _ hj h5 fun y g2 h6 h7 => ?_
    have hg : g2[D]? = some (.lst acc) := h7.get h2 fun q => by have := hS _ q; omega
    refine ⟨hg, rfl, h1, ?_, by simp [h3], by omega, hset D _ _ _ _ _ h1 hg (by omega) h6⟩
    rw [List.getElem?_set_self (List.getElem?_eq_some_iff.mp hg).1]
  · rintro src D acc g ⟨rfl, h1, h2, h3, h4, h5⟩
    rw [hl] at h3 h5
    exact hd acc D g h1 h2 h3 h5

/-! ### the generator's state -/
/-- names -/
structure NM (nr : Nat) (names : List Str) (g : G) : Prop where
  at_ : g[nr]? = some (.lst (names.map .str))
  ne : 0 < names.length
  le : names.length ≤ 100
  ok : ∀ x ∈ names, nameOk x = true
theorem NM.some_of {nr : Nat} {names : List Str} {g : G} (N : NM nr names g) {Q : PV → G → Prop} {v : Int} (h0 : 0 ≤ v) (h1 : v < names.length) (q : ∀ x, nameOk x = true → Q (.str x) g) : O (opIx (.ref nr) (.int v) g) Q := by
  refine O_some_of N.at_ h0 (by rw [List.length_map]; exact h1) fun x hx => ?_
  obtain ⟨y, hy, rfl⟩ := List.mem_map.mp hx
  exact q y (N.ok y hy)
theorem NM.len {nr : Nat} {names : List Str} {g : G} (N : NM nr names g) {Q : PV → G → Prop} : O (fLen [.ref nr] g) Q = Q (.int names.length) g := by
  rw [O_lenl g Q (seq_l g N.at_), List.length_map]
theorem NM.hd {nr : Nat} {names : List Str} {g : G} (N : NM nr names g) {Q : PV → G → Prop} : O (opIx (.ref nr) (.int 0) g) Q = Q (.str (names.head?.getD "a")) g := by
  obtain ⟨h1, h2, h3, h4⟩ := N
  cases names with
  | nil => simp at h2
  | cons a r => exact O_ix_l g Q h1 (atI_ok (by decide) rfl)
theorem NM.hd_ok {nr : Nat} {names : List Str} {g : G} (N : NM nr names g) : nameOk (names.head?.getD "a") = true := by
  obtain ⟨h1, h2, h3, h4⟩ := N
  cases names with
  | nil => simp at h2
  | cons a r => exact h4 a List.mem_cons_self
theorem NM.last {nr : Nat} {names : List Str} {g : G} (N : NM nr names g) {Q : PV → G → Prop} : O (opIx (.ref nr) (.int (-1)) g) Q = Q (.str (names.getLast?.getD "a")) g := by
  obtain ⟨h1, h2, h3, h4⟩ := N
  refine O_ix_l g Q h1 ?_
  unfold L2.atI L2.ixN
  rw [if_neg (by decide), if_pos (by rw [List.length_map]; omega)]
  show (names.map PV.str)[_]? = _
  rw [List.length_map, List.getElem?_map, List.getLast?_eq_getElem?]
  have e : ((-1 : Int) + (names.length : Int)).toNat = names.length - 1 := by omega
  first | rw [e] | skip
  have : names.length - 1 < names.length := by omega
  rw [List.getElem?_eq_getElem this]
  rfl
theorem NM.last_ok {nr : Nat} {names : List Str} {g : G} (N : NM nr names g) : nameOk (names.getLast?.getD "a") = true := by
  obtain ⟨h1, h2, h3, h4⟩ := N
  have : names.length - 1 < names.length := by omega
  rw [List.getLast?_eq_getElem?, List.getElem?_eq_getElem this]
  exact h4 _ (List.getElem_mem _)
structure GJ (t nr : Nat) (rs : List Nat) (names : List Str) (g0 : G) (k : Nat) (g : G) : Prop where
  tp : TP t k g
  fr : Fr (t :: rs) g0 g
  nm : NM nr names g
  rm : ∀ r ∈ rs, ∃ i : Int, g[r]? = some (.lst [.int i])
  lt : t < g0.length
  nlt : nr < g0.length
  rlt : ∀ r ∈ rs, r < g0.length
  nt : nr ≠ t
  nrs : nr ∉ rs
section
variable {t nr : Nat} {rs : List Nat} {names : List Str} {g0 g : G} {k : Nat}
theorem GJ.here (J : GJ t nr rs names g0 k g) : GJ t nr rs names g k g :=
  ⟨J.tp, .refl, J.nm, J.rm, Nat.lt_of_lt_of_le J.lt J.fr.le, Nat.lt_of_lt_of_le J.nlt J.fr.le, fun r h => Nat.lt_of_lt_of_le (J.rlt r h) J.fr.le, J.nt, J.nrs⟩
theorem GJ.none (J : GJ t nr rs names g0 k g) : GJ t nr [] names g k g :=
  ⟨J.tp, .refl, J.nm, fun _ h => (nomatch h), Nat.lt_of_lt_of_le J.lt J.fr.le, Nat.lt_of_lt_of_le J.nlt J.fr.le, fun _ h => (nomatch h), J.nt, fun h => (nomatch h)⟩
theorem GJ.app (J : GJ t nr rs names g0 k g) (m : G) : GJ t nr rs names g0 k (g ++ m) :=
  ⟨J.tp.app m, J.fr.trans (Fr.app m), ⟨(Fr.app (S := []) m).get J.nm.at_ (by simp), J.nm.ne, J.nm.le, J.nm.ok⟩, fun r h => by
    obtain ⟨i, e⟩ := J.rm r h
    exact ⟨i, (Fr.app (S := []) m).get e (by simp)⟩, J.lt, J.nlt, J.rlt, J.nt, J.nrs⟩
theorem GJ.set (J : GJ t nr rs names g0 k g) {D : Nat} {l l' : List PV} (hD : g0.length ≤ D) (h : g[D]? = some (.lst l)) (hl : l.length ≤ 300) : GJ t nr rs names g0 k (g.set D (.lst l')) := by
  have F : Fr [D] g (g.set D (.lst l')) := Fr.set _ (by simp)
  have out : ∀ r, r < g0.length → r ∉ [D] := fun r hr q => by
    have := List.mem_singleton.mp q
    omega
  refine ⟨J.tp.keep F ?_, J.fr.set_new _ hD, ⟨F.get J.nm.at_ (out _ J.nlt), J.nm.ne, J.nm.le, J.nm.ok⟩, fun r hr => ?_, J.lt, J.nlt, J.rlt, J.nt, J.nrs⟩
  · intro d o hd ho q
    have e := List.mem_singleton.mp q
    subst e
    rcases ho with rfl | ⟨m, rfl, hm⟩
    · have := J.lt; omega
    · rw [h] at hd
      cases hd
      omega
  · obtain ⟨i, e⟩ := J.rm r hr
    exact ⟨i, F.get e (out _ (J.rlt r hr))⟩
theorem GJ.room (J : GJ t nr rs names g0 k g) {r : Nat} (hr : r ∈ rs) (i : Int) : GJ t nr rs names g0 k (g.set r (.lst [.int i])) := by
  have F : Fr [r] g (g.set r (.lst [.int i])) := Fr.set _ (by simp)
  obtain ⟨j, e⟩ := J.rm r hr
  have hlt := (List.getElem?_eq_some_iff.mp e).1
  have hrt : r ≠ t := fun q => by
    subst q
    obtain ⟨d, xs, h1, _⟩ := J.tp
    rw [e] at h1
    simp at h1
  refine ⟨J.tp.keep F ?_, J.fr.trans (Fr.set _ (List.mem_cons_of_mem _ hr)), ⟨F.get J.nm.at_ fun q => ?_, J.nm.ne, J.nm.le, J.nm.ok⟩, fun r' hr' => ?_, J.lt, J.nlt, J.rlt, J.nt, J.nrs⟩
  · intro d o hd ho q
    have q' := List.mem_singleton.mp q
    subst q'
    rcases ho with rfl | ⟨m, rfl, hm⟩
    · exact hrt rfl
    · rw [e] at hd
      cases hd
      simp at hm
  · have q' := List.mem_singleton.mp q
    subst q'
    exact J.nrs hr
  · by_cases h : r' = r
    · subst h
      exact ⟨i, List.getElem?_set_self hlt⟩
    · obtain ⟨i', e'⟩ := J.rm r' hr'
      exact ⟨i', by rw [List.getElem?_set_ne (Ne.symm h)]; exact e'⟩
theorem GJ.rt (J : GJ t nr rs names g0 k g) {r : Nat} (hr : r ∈ rs) : r ≠ t := fun q => by
  obtain ⟨j, e⟩ := J.rm r hr
  subst q
  obtain ⟨d, xs, h1, _⟩ := J.tp
  rw [e] at h1
  simp at h1
theorem GJ.then {rs' : List Nat} {k' : Nat} {g' : G} (J : GJ t nr rs names g0 k g) (J' : GJ t nr rs' names g k' g') (hs : ∀ r ∈ rs', r ∈ rs) : GJ t nr rs names g0 k' g' := by
  refine ⟨J'.tp, J.fr.trans (J'.fr.mono fun i hi => ?_), J'.nm, fun r hr => ?_, J.lt, J.nlt, J.rlt, J.nt, J.nrs⟩
  · rcases List.mem_cons.mp hi with rfl | h
    · exact List.mem_cons_self
    · exact List.mem_cons_of_mem _ (hs i h)
  · by_cases h : r ∈ rs'
    · exact J'.rm r h
    · obtain ⟨i, e⟩ := J.rm r hr
      refine ⟨i, J'.fr.get e fun q => ?_⟩
      rcases List.mem_cons.mp q with rfl | q
      · exact J.rt hr rfl
      · exact h q
end
/-- parts, each grown by one more draw of the tape -/
theorem wp_parts {it : MI} {vs : List Nat} {i : Nat} {e : ME PV} {σ : Sl} {g : G} {Q : PV → G → Prop} {t nr : Nat} {rs : List Nat} {names : List Str} {g0 : G} {k : Nat} (P : Ex → Prop) (C m : Nat) (hm : m ≤ 300)
    (hit : W it σ g fun src g1 => src = .rng 0 1 m ∧ GJ t nr rs names g0 k g1)
    (he : ∀ g' k' (Q' : PV → G → Prop) (x : Nat), k ≤ k' → k' ≤ k + m * C → GJ t nr rs names g' k' g' → (∀ e k2 g2, P e → k' ≤ k2 → k2 ≤ k' + C → GJ t nr rs names g' k2 g2 → Q' e.pv g2) → W e ((wipeP σ vs).set i (some (.int x))) g' Q')
    (hd : ∀ (es : List Ex) (D k' : Nat) (g' : G), es.length = m → (∀ e ∈ es, P e) → k ≤ k' → k' ≤ k + m * C → g'[D]? = some (.lst (es.map Ex.pv)) → GJ t nr rs names g0 k' g' → Q (.ref D) g') : W (eComp it vs (gName i) tYes e) σ g Q := by
  obtain ⟨src0, g1, e1, -, J1⟩ := W_get hit
  have hS : ∀ s ∈ t :: rs, s < g0.length := fun s hs => by
    rcases List.mem_cons.mp hs with rfl | h
    · exact J1.lt
    · exact J1.rlt s h
  refine wp_reps (t :: rs) g0.length (fun j acc g' => ∃ (es : List Ex) (k' : Nat), acc = es.map Ex.pv ∧ es.length = j ∧ (∀ e ∈ es, P e) ∧ k ≤ k' ∧ k' ≤ k + j * C ∧ GJ t nr rs names g0 k' g') hS hm ?_ ?_ ?_ ?_
  · rintro D j acc l l' g hD hg hl ⟨es, k', h1, h2, h3, h4, h5, h6⟩
    exact ⟨es, k', h1, h2, h3, h4, h5, h6.set hD hg hl⟩
  · refine W_mono hit ?_
    rintro src g1 ⟨rfl, J⟩
    exact ⟨rfl, J.fr.le, [], k, rfl, rfl, fun _ h => (nomatch h), Nat.le_refl _, by omega, J.app _⟩
  · rintro j acc g' Q' hj ⟨es, k', rfl, h2, h3, h4, h5, h6⟩ hq
    have hjm : j * C ≤ m * C := Nat.mul_le_mul_right C (Nat.le_of_lt hj)
    refine he g' k' Q' j h4 (by omega) h6.here fun e k2 g2 p1 p2 p3 p4 => ?_
    refine hq _ _ ⟨es ++ [e], k2, by simp, by simp [h2], ?_, by omega, by rw [Nat.succ_mul]; omega, h6.then p4 fun _ h => h⟩ p4.fr
    intro x hx
    rcases List.mem_append.mp hx with h | h
    · exact h3 x h
    · rw [List.mem_singleton.mp h]; exact p1
  · rintro acc D g' hD hg hl ⟨es, k', rfl, h2, h3, h4, h5, h6⟩
    exact hd es D k' g' h2 h3 h4 h5 hg h6
theorem gSub_room {i : Nat} {v x : PV} {σ : Sl} {g : G} {r : Nat} (hσ : σ[i]? = some (some (.ref r))) (h : g[r]? = some (.lst [x])) : gSub (eVar i) (eC (.int 0)) v σ g = some (σ, g.set r (.lst [v])) := by
  unfold gSub eVar eC ME.ret
  rw [hσ]
  simp [setIx, h, L2.ixN]
theorem new_at2 {g : G} {a b : GO} : (g ++ [a] ++ [b])[g.length]? = some a := by simp
/-- a program -/
structure Prog (es : List Ex) : Prop where
  pos : 1 ≤ es.length
  le : es.length ≤ 4
  ok : ∀ (j : Nat) (e : Ex), es[j]? = some e → e.ok (j : Int) false = true
  dp : ∀ e ∈ es, e.dep ≤ 8
  ct : (es.map Ex.count).sum ≤ 80
theorem GJ.start {t nr : Nat} {rs : List Nat} {names : List Str} {g : G} {k : Nat} (T : TP t k g) (N : NM nr names g) (hr : ∀ r ∈ rs, ∃ i : Int, g[r]? = some (.lst [.int i])) (hn : nr ≠ t) (hnr : nr ∉ rs) : GJ t nr rs names g k g := by
  obtain ⟨d, xs, h1, h2⟩ := T
  exact ⟨⟨d, xs, h1, h2⟩, .refl, N, hr, (List.getElem?_eq_some_iff.mp h1).1, (List.getElem?_eq_some_iff.mp N.at_).1, fun r h => by
    obtain ⟨i, e⟩ := hr r h
    exact (List.getElem?_eq_some_iff.mp e).1, hn, hnr⟩
theorem O_mul_one {g : G} {Q : PV → G → Prop} {v : PV} : O (opMul (.tup [v]) (.int 1) g) Q = Q (.tup [v]) g := rfl
theorem O_mul_zero {g : G} {Q : PV → G → Prop} {v : PV} : O (opMul (.tup [v]) (.int 0) g) Q = Q (.tup []) g := rfl
end Vm
end

section
set_option maxRecDepth 100000
set_option maxHeartbeats 4000000
/-! VmX: more on loops. -/
namespace Vm
open PySem
open L2 (Key)
/-- a for, of what is gone over only once that is known -/
def LoopRun (src : Src) (tg : MG) (b : MS) : MS := fun σ g => forLoop src tg b (src.len g + 1) 0 σ g
theorem wp_for2 {it : MI} {tg : MG} {b : MS} {σ : Sl} {g : G} {D : RS → Prop} (h : W it σ g fun src g1 => WS (LoopRun src tg b) σ g1 D) : WS (sFor it tg b) σ g D := by
  obtain ⟨src, g1, e, k⟩ := W_get h
  unfold WS at k ⊢
  unfold sFor
  rw [e]
  exact k
theorem loop_run {src : Src} {tg : MG} {b : MS} {L : List PV} {σ : Sl} {g : G} {D : RS → Prop} (I : Nat → Sl → G → Prop) (h0 : I 0 σ g) (hi : ∀ i σ g, I i σ g → Items src L g)
    (hs : ∀ i x σ g, L[i]? = some x → I i σ g → ∃ σ1 g1, tg x σ g = some (σ1, g1) ∧ WS b σ1 g1 (LK (I (i + 1)) D)) (hd : ∀ σ g, I L.length σ g → D (.nx σ g)) : WS (LoopRun src tg b) σ g D := by
  unfold LoopRun
  have := for_run (D := D) hi hs hd L.length 0 σ g (by omega) (Nat.zero_le _) h0
  unfold WS at this ⊢
  dsimp only
  rw [(hi _ _ _ h0).len]
  exact this
theorem WS_mono {m : MS} {σ : Sl} {g : G} {D D' : RS → Prop} (h : WS m σ g D) (k : ∀ r, D r → D' r) : WS m σ g D' := by
  unfold WS at h ⊢
  split at h
  · exact k _ h
  · exact h.elim
theorem LK_mono {I I' : Sl → G → Prop} {D : RS → Prop} (k : ∀ σ g, I σ g → I' σ g) : ∀ r, LK I D r → LK I' D r
  | .nx σ g, h => k σ g h
  | .ct σ g, h => k σ g h
  | .bk _ _, h => h
  | .rt _ _, h => h
  | .xc _ _ _, h => h
/-- over a range -/
theorem loop_rng {m : Nat} {i : Nat} {b : MS} {σ : Sl} {g : G} {D : RS → Prop} (I : Nat → Sl → G → Prop) (h0 : I 0 σ g) (hs : ∀ j σ g, j < m → I j σ g → WS b (σ.set i (some (.int j))) g (LK (I (j + 1)) D)) (hd : ∀ σ g, I m σ g → D (.nx σ g)) : WS (LoopRun (.rng 0 1 m) (gName i) b) σ g D := by
  have hl : ((List.range m).map fun (i : Nat) => PV.int (0 + (i : Int) * 1)).length = m := by simp
  refine loop_run (L := (List.range m).map fun (i : Nat) => PV.int (0 + (i : Int) * 1)) I h0 (fun _ _ g _ => items_rng 0 1 m g) ?_ (by rw [hl]; exact hd)
  intro j x σ g hx h
  have hj : j < m := by
    have := (List.getElem?_eq_some_iff.mp hx).1
    rwa [hl] at this
  obtain rfl : x = .int j := by
    rw [List.getElem?_map, List.getElem?_range hj] at hx
    have := Option.some.inj hx
    rw [← this]
    simp
  exact ⟨_, _, rfl, hs j σ g hj h⟩
theorem W_chain {f h : Op2} {a b c : ME PV} {σ : Sl} {g : G} {Q : PV → G → Prop} : W (eChain f h a b c) σ g Q = W a σ g fun x g1 => W b σ g1 fun y g2 => O (f x y g2) fun v g3 => match v with
    | .bl true => W c σ g3 fun z g4 => O (h y z g4) Q
    | .bl false => Q (.bl false) g3
    | _ => False := by
  unfold eChain
  rw [W_bind]; congr; funext x g1; rw [W_bind]; congr; funext y g2
  unfold O
  cases hf : f x y g2 with
  | none => unfold W; simp only [hf]
  | some r =>
    obtain ⟨v, g3⟩ := r
    have e : ∀ g3, W (c.bind fun z => fun _ g2 => liftO (h y z g2)) σ g3 Q = W c σ g3 fun z g4 => O (h y z g4) Q := fun g3 => by
      rw [W_bind]; congr; funext z g4; exact W_lift (fun g => h y z g) _ _ _
    cases v with
    | bl b =>
      cases b with
      | true =>
        have e3 := e g3
        unfold W at e3 ⊢
        simp only [hf]
        exact e3
      | false => unfold W; simp only [hf]
    | _ => unfold W; simp only [hf]
theorem O_nin_dk {g : G} {Q : PV → G → Prop} {r : Nat} {kvs : List (Key × PV)} {w : Str} (h : g[r]? = some (.dk kvs)) : O (opNotIn (.str w) (.ref r) g) Q = Q (.bl (!(look kvs (.inr w)).isSome)) g := by
  simp [O, opNotIn, opIn, seqOf, getD, h]
theorem O_in_dk {g : G} {Q : PV → G → Prop} {r : Nat} {kvs : List (Key × PV)} {w : Str} (h : g[r]? = some (.dk kvs)) : O (opIn (.str w) (.ref r) g) Q = Q (.bl (look kvs (.inr w)).isSome) g := by
  simp [O, opIn, seqOf, getD, h]
theorem cut_1 (a : PV) (l : List PV) : cutP (a :: l) (some 1) none = l := by
  unfold cutP HT.sIx
  simp
theorem O_slt (a : PV) (l : List PV) (g : G) (Q : PV → G → Prop) : O (opSl (.tup (a :: l)) (some 1) none g) Q = Q (.tup l) g := by
  show Q (.tup (cutP (a :: l) (some 1) none)) g = _
  rw [cut_1]
theorem in_str (a b : Str) (g : G) (Q : PV → G → Prop) : O (opIn (.str a) (.str b) g) Q = Q (.bl (inS a b)) g := rfl
namespace Ex
/-- what stands for the letters of a well made expression -/
theorem zl_ok {e : Ex} {body : Int} {p : Bool} (h : e.ok body p = true) {x : PV} (hx : x ∈ e.zl) :
    (∃ q, q ∈ e.parts ∧ x = .tup [.str "e", q.pv] ∧ q.ok body p = true) ∨ (∃ q, q ∈ e.parts ∧ x = .tup [.str "p", q.pv] ∧ q.ok body true = true) ∨ (∃ s, x = .tup [.str "x", .str s] ∧ nameOk s = true) ∨ (∃ s, x = .tup [.str "w", .str s] ∧ nameOk s = true ∧ s ≠ "on") ∨
    (∃ i, x = .tup [.str "n", .int i]) ∨ (∃ i, x = .tup [.str "t", .int i] ∧ 0 ≤ i ∧ i < 4) ∨ (∃ i, x = .tup [.str "k", .int i] ∧ 0 ≤ i ∧ i < body) := by
  cases e with
  | num i => simp only [zl, List.mem_singleton] at hx; subst hx; exact .inr (.inr (.inr (.inr (.inl ⟨_, rfl⟩))))
  | name s => simp only [zl, List.mem_singleton] at hx; subst hx; exact .inr (.inr (.inl ⟨_, rfl, h⟩))
  | read => simp [zl] at hx
  | plus a b =>
    simp only [ok, Bool.and_eq_true] at h
    simp only [zl, List.mem_cons, List.not_mem_nil, or_false] at hx
    rcases hx with rfl | rfl
    · exact .inl ⟨a, by simp [parts], rfl, h.1⟩
    · exact .inl ⟨b, by simp [parts], rfl, h.2⟩
  | less a b =>
    simp only [ok, Bool.and_eq_true] at h
    simp only [zl, List.mem_cons, List.not_mem_nil, or_false] at hx
    rcases hx with rfl | rfl
    · exact .inl ⟨a, by simp [parts], rfl, h.1⟩
    · exact .inl ⟨b, by simp [parts], rfl, h.2⟩
  | cond a b c =>
    simp only [ok, Bool.and_eq_true] at h
    simp only [zl, List.mem_cons, List.not_mem_nil, or_false] at hx
    rcases hx with rfl | rfl | rfl
    · exact .inl ⟨a, by simp [parts], rfl, h.1⟩
    · exact .inl ⟨b, by simp [parts], rfl, h.2.1⟩
    · exact .inl ⟨c, by simp [parts], rfl, h.2.2⟩
  | lett s a b =>
    simp only [ok, Bool.and_eq_true] at h
    simp only [zl, List.mem_cons, List.not_mem_nil, or_false] at hx
    rcases hx with rfl | rfl | rfl
    · exact .inr (.inr (.inl ⟨_, rfl, h.1⟩))
    · exact .inl ⟨a, by simp [parts], rfl, h.2.1⟩
    · exact .inl ⟨b, by simp [parts], rfl, h.2.2⟩
  | tell a =>
    simp only [ok] at h
    simp only [zl, List.mem_cons, List.not_mem_nil, or_false] at hx
    subst hx
    exact .inl ⟨a, by simp [parts], rfl, h⟩
  | call k a =>
    simp only [ok, Bool.and_eq_true, decide_eq_true_eq] at h
    simp only [zl, List.mem_cons, List.not_mem_nil, or_false] at hx
    rcases hx with rfl | rfl
    · exact .inr (.inr (.inr (.inr (.inr (.inr ⟨k, rfl, h.2.1.1, h.2.1.2⟩)))))
    · exact .inl ⟨a, by simp [parts], rfl, h.2.2⟩
  | fault s a =>
    simp only [ok, Bool.and_eq_true] at h
    simp only [zl, List.mem_cons, List.not_mem_nil, or_false] at hx
    rcases hx with rfl | rfl
    · exact .inr (.inr (.inl ⟨_, rfl, h.2.1⟩))
    · exact .inl ⟨a, by simp [parts], rfl, h.2.2⟩
  | take s a =>
    simp only [ok, Bool.and_eq_true] at h
    simp only [zl, List.mem_cons, List.not_mem_nil, or_false] at hx
    rcases hx with rfl | rfl
    · exact .inr (.inr (.inl ⟨_, rfl, h.2.1⟩))
    · exact .inl ⟨a, by simp [parts], rfl, h.2.2⟩
  | look k s a b =>
    simp only [ok, Bool.and_eq_true] at h
    simp only [zl, List.mem_cons, List.not_mem_nil, or_false] at hx
    rcases hx with rfl | rfl | rfl | rfl
    · exact .inr (.inr (.inl ⟨_, rfl, h.2.1.1⟩))
    · exact .inr (.inr (.inl ⟨_, rfl, h.2.1.2⟩))
    · exact .inl ⟨a, by simp [parts], rfl, h.2.2.1⟩
    · exact .inl ⟨b, by simp [parts], rfl, h.2.2.2⟩
  | way k s a b =>
    simp only [ok, Bool.and_eq_true, Bool.not_eq_true', decide_eq_false_iff_not] at h
    simp only [zl, List.mem_cons, List.not_mem_nil, or_false] at hx
    rcases hx with rfl | rfl | rfl | rfl
    · exact .inr (.inr (.inr (.inl ⟨_, rfl, h.2.1.1.1, h.2.1.1.2⟩)))
    · exact .inr (.inr (.inl ⟨_, rfl, h.2.1.2⟩))
    · exact .inl ⟨a, by simp [parts], rfl, h.2.2.1⟩
    · exact .inl ⟨b, by simp [parts], rfl, h.2.2.2⟩
  | anew s i a =>
    simp only [ok, Bool.and_eq_true, Bool.not_eq_true', decide_eq_false_iff_not, decide_eq_true_eq] at h
    simp only [zl, List.mem_cons, List.not_mem_nil, or_false] at hx
    rcases hx with rfl | rfl | rfl
    · exact .inr (.inr (.inr (.inl ⟨_, rfl, h.2.1.1.1, h.2.1.1.2⟩)))
    · exact .inr (.inr (.inr (.inr (.inr (.inl ⟨i, rfl, h.2.1.2.1, by omega⟩)))))
    · exact .inl ⟨a, by simp [parts], rfl, h.2.2⟩
  | clean c a =>
    simp only [ok, Bool.and_eq_true] at h
    simp only [zl, List.mem_cons, List.not_mem_nil, or_false] at hx
    rcases hx with rfl | rfl
    · exact .inr (.inl ⟨c, by simp [parts], rfl, h.2.1⟩)
    · exact .inl ⟨a, by simp [parts], rfl, h.2.2⟩
end Ex
namespace Ex
theorem count_part {e p : Ex} (h : p ∈ e.parts) : p.count ≤ e.count := by
  cases e <;> simp only [parts, List.mem_cons, List.not_mem_nil, or_false] at h
  case plus a b => have := a.count_pos; have := b.count_pos; rcases h with rfl | rfl <;> simp only [count] <;> omega
  case less a b => have := a.count_pos; have := b.count_pos; rcases h with rfl | rfl <;> simp only [count] <;> omega
  case cond a b c => have := a.count_pos; have := b.count_pos; have := c.count_pos; rcases h with rfl | rfl | rfl <;> simp only [count] <;> omega
  case lett s a b => have := a.count_pos; have := b.count_pos; rcases h with rfl | rfl <;> simp only [count] <;> omega
  case look s k a b => have := a.count_pos; have := b.count_pos; rcases h with rfl | rfl <;> simp only [count] <;> omega
  case way s k a b => have := a.count_pos; have := b.count_pos; rcases h with rfl | rfl <;> simp only [count] <;> omega
  case clean a b => have := a.count_pos; have := b.count_pos; rcases h with rfl | rfl <;> simp only [count] <;> omega
  all_goals subst h; simp only [count]; omega
end Ex
end Vm
end

section
set_option maxRecDepth 100000
set_option maxHeartbeats 4000000
/-! VmY: a comprehension that takes some of what is gone over. -/
namespace Vm
open PySem
open L2 (Key)
theorem wp_filter {α : Type} {it : MI} {vs : List Nat} {i : Nat} {t : ME Bool} {σ : Sl} {g : G} {Q : PV → G → Prop} (f : α → PV) (l : List α) (p : α → Bool) (hi : i < σ.length) (hb : l.length ≤ big)
    (hit : W it σ g fun src g1 => (∀ m, Items src (l.map f) (g1 ++ m)) ∧ ∀ m, Q (.ref g1.length) (g1 ++ .lst ((l.filter p).map f) :: m))
    (ht : ∀ (x : α) (g' : G) (Q' : Bool → G → Prop), x ∈ l → (∀ m, Q' (p x) (g' ++ m)) → W t ((wipeP σ vs).set i (some (f x))) g' Q') : W (eComp it vs (gName i) t (eVar i)) σ g Q := by
  have hw : ∀ vs : List Nat, (wipeP σ vs).length = σ.length := fun vs => by induction vs with
    | nil => rfl
    | cons a r ih => simp [wipeP, ih]
  obtain ⟨src, g1, e1, h1, h2⟩ := W_get hit
  obtain ⟨acc, g', q1, q2, m, q3, q4⟩ := eComp_inv (vs := vs) (tg := gName i) (t := t) (e := eVar i) (L := l.map f) (I := fun i acc g => i ≤ l.length ∧ ∃ m, acc = ((l.take i).filter p).map f ∧ g = g1 ++ .lst acc :: m) e1 (by simpa using h1 []) ⟨Nat.zero_le _, [], rfl, rfl⟩
    (fun i acc g ⟨hi, m, q1, q2⟩ => ⟨by rw [q2]; exact h1 _, by rw [q2, List.getElem?_append_right (Nat.le_refl _), Nat.sub_self]; rfl, by
      rw [q1, List.length_map]
      exact Nat.le_trans (List.length_filter_le _ _) (by rw [List.length_take]; omega)⟩) (by rw [List.length_map]; exact hb)
    (fun j x acc g hx ⟨hj, m, q1, q2⟩ => by
      have hlt : j < l.length := by
        have := (List.getElem?_eq_some_iff.mp hx).1
        rwa [List.length_map] at this
      obtain ⟨a, ha, rfl⟩ : ∃ a, l[j]? = some a ∧ x = f a := by
        rw [List.getElem?_map, List.getElem?_eq_getElem hlt] at hx
        exact ⟨_, List.getElem?_eq_getElem hlt, (Option.some.inj hx).symm⟩
      have tk : l.take (j + 1) = l.take j ++ [a] := by rw [List.take_succ, ha]; rfl
      have := ht a g (fun c g2 => c = p a ∧ ∃ m, g2 = g ++ m) (List.mem_of_getElem? ha) fun m => ⟨rfl, m, rfl⟩
      obtain ⟨c, g2, r1, rfl, m2, rfl⟩ := W_get this
      refine ⟨_, g, p a, g ++ m2, rfl, r1, ?_⟩
      cases hp : p a with
      | false => exact .inl ⟨rfl, hlt, m ++ m2, by rw [tk, List.filter_append, q1]; simp [hp], by rw [q2]; simp⟩
      | true =>
        refine .inr ⟨rfl, f a, g ++ m2, ?_, ?_, hlt, m ++ m2, ?_, ?_⟩
        · unfold eVar
          rw [List.getElem?_set_self (by rw [hw]; exact hi)]
        · rw [q2]; simp [List.getElem?_append]
        · rw [tk, List.filter_append, q1]; simp [hp]
        · rw [q2]; simp [List.set_append])
  rw [List.length_map, List.take_length] at q3
  subst q3
  rw [q4] at q1
  exact W_of q1 (h2 m)
namespace Ex
theorem ok_part {e r : Ex} {body : Int} {p : Bool} (h : e.ok body p = true) (hr : r ∈ e.parts) : r.ok body false = true := by
  cases e <;> simp only [parts, List.mem_cons, List.not_mem_nil, or_false] at hr <;> simp only [ok, Bool.and_eq_true] at h
  case plus a b => rcases hr with rfl | rfl <;> cases p <;> simp [h, ok_plain]
  case less a b => rcases hr with rfl | rfl <;> cases p <;> simp [h, ok_plain]
  case cond a b c => rcases hr with rfl | rfl | rfl <;> cases p <;> simp [h, ok_plain]
  case lett s a b => rcases hr with rfl | rfl <;> cases p <;> simp [h, ok_plain]
  case tell a => subst hr; cases p <;> simp [h, ok_plain]
  case call k a => subst hr; cases p <;> simp_all
  case fault k a => subst hr; cases p <;> simp_all
  case take k a => subst hr; cases p <;> simp_all
  case look k s a b => rcases hr with rfl | rfl <;> cases p <;> simp_all
  case way k s a b => rcases hr with rfl | rfl <;> cases p <;> simp_all
  case anew k s a => subst hr; cases p <;> simp_all
  case clean a b => rcases hr with rfl | rfl <;> cases p <;> simp_all [ok_plain]
/-- parts and the like, as data -/
theorem Dat_list {l : List Ex} (hl : l.length ≤ 100) (h : ∀ e ∈ l, ∃ body p, e.ok body p = true ∧ e.dep ≤ 50 ∧ e.count ≤ 90) : Dat (.tup (l.map pv)) := by
  refine ⟨?_, ?_, ?_⟩
  · rw [pdat]
    exact pdats_map fun e he => by obtain ⟨body, p, h1, _⟩ := h e he; exact pdat_pv h1
  · rw [psz]
    have := pszs_map (f := pv) (l := l) (n := 900) fun e he => by
      obtain ⟨body, p, h1, h2, h3⟩ := h e he
      have := e.psz_pv
      omega
    have h2 : l.length * (900 + 1) ≤ 100 * 901 := Nat.mul_le_mul hl (Nat.le_refl _)
    unfold deepF
    omega
  · rw [pdp]
    have := pdps_map (f := pv) (l := l) (n := 60) fun e he => by
      obtain ⟨body, p, h1, h2, h3⟩ := h e he
      have := e.pdp_pv
      omega
    omega
end Ex
namespace Ex
theorem ok_fsub {e : Ex} {body : Int} {p : Bool} (h : e.ok body p = true) : e.fsub.ok body p = true := by
  cases e <;> simp only [fsub, ok, Bool.and_eq_true] at h ⊢
  case name x => exact h
  case read => exact h
  case plus a b => exact ⟨ok_folded h.1, ok_folded h.2⟩
  case less a b => exact ⟨ok_folded h.1, ok_folded h.2⟩
  case cond a b c => exact ⟨ok_folded h.1, ok_folded h.2.1, ok_folded h.2.2⟩
  case lett x a b => exact ⟨h.1, ok_folded h.2.1, ok_folded h.2.2⟩
  case tell a => exact ok_folded h
  case call k a => exact ⟨h.1, h.2.1, ok_folded h.2.2⟩
  case fault k a => exact ⟨h.1, h.2.1, ok_folded h.2.2⟩
  case take k a => exact ⟨h.1, h.2.1, ok_folded h.2.2⟩
  case look k x a b => exact ⟨h.1, h.2.1, ok_folded h.2.2.1, ok_folded h.2.2.2⟩
  case way k x a b => exact ⟨h.1, h.2.1, ok_folded h.2.2.1, ok_folded h.2.2.2⟩
  case anew k x a => exact ⟨h.1, h.2.1, ok_folded h.2.2⟩
  case clean a b => exact ⟨h.1, ok_folded h.2.1, ok_folded h.2.2⟩
theorem count_fsub (e : Ex) : e.fsub.count ≤ e.count := by
  cases e with
  | plus a b => have := a.count_folded; have := b.count_folded; simp only [fsub, count]; omega
  | less a b => have := a.count_folded; have := b.count_folded; simp only [fsub, count]; omega
  | cond a b c => have := a.count_folded; have := b.count_folded; have := c.count_folded; simp only [fsub, count]; omega
  | lett x a b => have := a.count_folded; have := b.count_folded; simp only [fsub, count]; omega
  | tell a => have := a.count_folded; simp only [fsub, count]; omega
  | call k a => have := a.count_folded; simp only [fsub, count]; omega
  | fault k a => have := a.count_folded; simp only [fsub, count]; omega
  | take k a => have := a.count_folded; simp only [fsub, count]; omega
  | look k x a b => have := a.count_folded; have := b.count_folded; simp only [fsub, count]; omega
  | way k x a b => have := a.count_folded; have := b.count_folded; simp only [fsub, count]; omega
  | anew k x a => have := a.count_folded; simp only [fsub, count]; omega
  | clean a b => have := a.count_folded; have := b.count_folded; simp only [fsub, count]; omega
  | _ => exact Int.le_refl _
end Ex
end Vm
end

section
set_option maxRecDepth 100000
set_option maxHeartbeats 4000000
/-! VmZ: a tape alone. -/
namespace Vm
open PySem
open L2 (Key)
structure KJ (t : Nat) (g0 : G) (k : Nat) (g : G) : Prop where
  tp : TP t k g
  fr : Fr [t] g0 g
  lt : t < g0.length
section
variable {t : Nat} {g0 g : G} {k : Nat}
theorem KJ.start (T : TP t k g) : KJ t g k g := ⟨T, .refl, by obtain ⟨d, xs, h, _⟩ := T; exact (List.getElem?_eq_some_iff.mp h).1⟩
theorem KJ.here (J : KJ t g0 k g) : KJ t g k g := ⟨J.tp, .refl, Nat.lt_of_lt_of_le J.lt J.fr.le⟩
theorem KJ.app (J : KJ t g0 k g) (m : G) : KJ t g0 k (g ++ m) := ⟨J.tp.app m, J.fr.trans (Fr.app m), J.lt⟩
theorem KJ.set (J : KJ t g0 k g) {D : Nat} {l l' : List PV} (hD : g0.length ≤ D) (h : g[D]? = some (.lst l)) (hl : l.length ≤ 300) : KJ t g0 k (g.set D (.lst l')) := by
  have F : Fr [D] g (g.set D (.lst l')) := Fr.set _ (by simp)
  refine ⟨J.tp.keep F ?_, J.fr.set_new _ hD, J.lt⟩
  intro d o hd ho q
  have e := List.mem_singleton.mp q
  subst e
  rcases ho with rfl | ⟨m, rfl, hm⟩
  · have := J.lt; omega
  · rw [h] at hd
    cases hd
    omega
theorem KJ.then {k' : Nat} {g' : G} (J : KJ t g0 k g) (J' : KJ t g k' g') : KJ t g0 k' g' := ⟨J'.tp, J.fr.trans J'.fr, J.lt⟩
end
theorem wp_partsK {it : MI} {vs : List Nat} {i : Nat} {e : ME PV} {σ : Sl} {g : G} {Q : PV → G → Prop} {t : Nat} {g0 : G} {k : Nat} (P : Ex → Prop) (C m : Nat) (hm : m ≤ 300)
    (hit : W it σ g fun src g1 => src = .rng 0 1 m ∧ KJ t g0 k g1)
    (he : ∀ g' k' (Q' : PV → G → Prop) (x : Nat), k ≤ k' → k' ≤ k + m * C → KJ t g' k' g' → (∀ e k2 g2, P e → k' ≤ k2 → k2 ≤ k' + C → KJ t g' k2 g2 → Q' e.pv g2) → W e ((wipeP σ vs).set i (some (.int x))) g' Q')
    (hd : ∀ (es : List Ex) (D k' : Nat) (g' : G), es.length = m → (∀ e ∈ es, P e) → k ≤ k' → k' ≤ k + m * C → g'[D]? = some (.lst (es.map Ex.pv)) → KJ t g0 k' g' → Q (.ref D) g') : W (eComp it vs (gName i) tYes e) σ g Q := by
  obtain ⟨src0, g1, e1, -, J1⟩ := W_get hit
  have hS : ∀ s ∈ [t], s < g0.length := fun s hs => by
    rw [List.mem_singleton.mp hs]
    exact J1.lt
  refine wp_reps [t] g0.length (fun j acc g' => ∃ (es : List Ex) (k' : Nat), acc = es.map Ex.pv ∧ es.length = j ∧ (∀ e ∈ es, P e) ∧ k ≤ k' ∧ k' ≤ k + j * C ∧ KJ t g0 k' g') hS hm ?_ ?_ ?_ ?_
  · rintro D j acc l l' g hD hg hl ⟨es, k', h1, h2, h3, h4, h5, h6⟩
    exact ⟨es, k', h1, h2, h3, h4, h5, h6.set hD hg hl⟩
  · refine W_mono hit ?_
    rintro src g1 ⟨rfl, J⟩
    exact ⟨rfl, J.fr.le, [], k, rfl, rfl, fun _ h => (nomatch h), Nat.le_refl _, by omega, J.app _⟩
  · rintro j acc g' Q' hj ⟨es, k', rfl, h2, h3, h4, h5, h6⟩ hq
    have hjm : j * C ≤ m * C := Nat.mul_le_mul_right C (Nat.le_of_lt hj)
    refine he g' k' Q' j h4 (by omega) h6.here fun e k2 g2 p1 p2 p3 p4 => ?_
    refine hq _ _ ⟨es ++ [e], k2, by simp, by simp [h2], ?_, by omega, by rw [Nat.succ_mul]; omega, h6.then p4⟩ p4.fr
    intro x hx
    rcases List.mem_append.mp hx with h | h
    · exact h3 x h
    · rw [List.mem_singleton.mp h]; exact p1
  · rintro acc D g' hD hg hl ⟨es, k', rfl, h2, h3, h4, h5, h6⟩
    exact hd es D k' g' h2 h3 h4 h5 hg h6
namespace Ex
theorem ok_body {e : Ex} {b b' : Int} (hb : b ≤ b') : ∀ {p : Bool}, e.ok b p = true → e.ok b' p = true := by
  induction e with
  | num _ => exact fun h => h
  | name _ => exact fun h => h
  | read => exact fun h => h
  | plus a b ha hb => intro p h; simp only [ok, Bool.and_eq_true] at h ⊢; exact ⟨ha h.1, hb h.2⟩
  | less a b ha hb => intro p h; simp only [ok, Bool.and_eq_true] at h ⊢; exact ⟨ha h.1, hb h.2⟩
  | cond a b c ha hb hc => intro p h; simp only [ok, Bool.and_eq_true] at h ⊢; exact ⟨ha h.1, hb h.2.1, hc h.2.2⟩
  | lett x a b ha hb => intro p h; simp only [ok, Bool.and_eq_true] at h ⊢; exact ⟨h.1, ha h.2.1, hb h.2.2⟩
  | tell a ha => intro p h; simp only [ok] at h ⊢; exact ha h
  | call k a ha => intro p h; simp only [ok, Bool.and_eq_true, decide_eq_true_eq] at h ⊢; exact ⟨h.1, ⟨h.2.1.1, by omega⟩, ha h.2.2⟩
  | fault x a ha => intro p h; simp only [ok, Bool.and_eq_true] at h ⊢; exact ⟨h.1, h.2.1, ha h.2.2⟩
  | take x a ha => intro p h; simp only [ok, Bool.and_eq_true] at h ⊢; exact ⟨h.1, h.2.1, ha h.2.2⟩
  | look k x a b ha hb => intro p h; simp only [ok, Bool.and_eq_true] at h ⊢; exact ⟨h.1, h.2.1, ha h.2.2.1, hb h.2.2.2⟩
  | way k x a b ha hb => intro p h; simp only [ok, Bool.and_eq_true] at h ⊢; exact ⟨h.1, h.2.1, ha h.2.2.1, hb h.2.2.2⟩
  | anew x t a ha => intro p h; simp only [ok, Bool.and_eq_true] at h ⊢; exact ⟨h.1, h.2.1, ha h.2.2⟩
  | clean c a hc ha => intro p h; simp only [ok, Bool.and_eq_true] at h ⊢; exact ⟨h.1, hc h.2.1, ha h.2.2⟩
end Ex
theorem count_le : ∀ {l : List Ex} {e : Ex}, e ∈ l → e.count ≤ (l.map Ex.count).sum := by
  have h0 : ∀ l : List Ex, 0 ≤ (l.map Ex.count).sum := by
    intro l
    induction l with
    | nil => simp
    | cons b s ih2 => have := b.count_pos; simp only [List.map_cons, List.sum_cons]; omega
  intro l
  induction l with
  | nil => intro e h; cases h
  | cons a r ih =>
    intro e h
    have := a.count_pos
    have := h0 r
    simp only [List.map_cons, List.sum_cons]
    rcases List.mem_cons.mp h with rfl | h
    · omega
    · have := ih h
      omega
theorem Prog.fold {es : List Ex} (P : Prog es) : Prog (es.map Ex.folded) := by
  refine ⟨by rw [List.length_map]; exact P.pos, by rw [List.length_map]; exact P.le, ?_, ?_, ?_⟩
  · intro j e h
    rw [List.getElem?_map] at h
    cases hj : es[j]? with
    | none => rw [hj] at h; cases h
    | some a =>
      rw [hj] at h
      cases h
      exact Ex.ok_folded (P.ok j a hj)
  · intro e h
    obtain ⟨a, ha, rfl⟩ := List.mem_map.mp h
    exact Nat.le_trans a.folded_dep (P.dp a ha)
  · have := P.ct
    have h2 : ∀ l : List Ex, ((l.map Ex.folded).map Ex.count).sum ≤ (l.map Ex.count).sum := by
      intro l
      induction l with
      | nil => simp
      | cons a r ih => have := a.count_folded; simp only [List.map_cons, List.sum_cons]; omega
    have := h2 es
    omega
theorem Prog.each {es : List Ex} (P : Prog es) {e : Ex} (h : e ∈ es) : e.ok 4 false = true ∧ e.dep ≤ 8 ∧ e.count ≤ 80 := by
  obtain ⟨j, hj⟩ := List.getElem?_of_mem h
  have hl := (List.getElem?_eq_some_iff.mp hj).1
  have := P.le
  exact ⟨Ex.ok_body (by omega) (P.ok j e hj), P.dp e h, Int.le_trans (count_le h) P.ct⟩
theorem Prog.one {e : Ex} (h : e.ok 0 false = true) (h2 : e.dep ≤ 8) (h3 : e.count ≤ 80) : Prog [e] := ⟨by simp, by simp, fun j e' h' => by
  cases j with
  | zero => cases h'; exact h
  | succ j => simp at h', fun e' h' => by rw [List.mem_singleton.mp h']; exact h2, by simpa using h3⟩
/-- a program as data -/
theorem Prog.dat {es : List Ex} (P : Prog es) : Dat (.tup (es.map Ex.pv)) := Ex.Dat_list (by have := P.le; omega) fun e he => by
  obtain ⟨h1, h2, h3⟩ := P.each he
  exact ⟨4, false, h1, by omega, by omega⟩
end Vm
end

section
set_option maxRecDepth 100000
set_option maxHeartbeats 8000000
namespace K19
open PySem L2 PySem.Spec PyProof.Rows Vm
def top (i : Nat) : Stmt := PySem.Challenge.pw_mendways_k19_folded_by_hand.main.body.getD i (.Pass ⟨0, 0, 0, 0⟩)
def c_FORMS : PV := .sd [("num", "n"), ("name", "x"), ("plus", "ee"), ("less", "ee"), ("if", "eee"), ("let", "xee"), ("read", ""), ("tell", "e"), ("call", "ke"), ("fault", "xe"), ("take", "xe"), ("look", "xxee"), ("way", "wxee"), ("anew", "wte"), ("clean", "pe")]
def gl : List (Str × Gb) := [("FORMS", .val c_FORMS), ("within", .fn ("", "within")), ("reckoned", .fn ("", "reckoned")), ("is_simple", .fn ("", "is_simple")), ("has_tell", .fn ("", "has_tell")), ("fold_one", .fn ("", "fold_one")), ("fold", .fn ("", "fold")), ("folded", .fn ("", "folded")), ("_law_cell_at", .fn ("", "_law_cell_at")), ("_law_draws", .fn ("", "_law_draws")), ("_law_a_tape", .fn ("", "_law_a_tape")), ("_law_pick", .fn ("", "_law_pick")), ("_law_leaf", .fn ("", "_law_leaf")), ("_law_a_plain", .fn ("", "_law_a_plain")), ("_law_grown", .fn ("", "_law_grown")), ("_law_within", .fn ("", "_law_within")), ("_law_count", .fn ("", "_law_count")), ("_law_a_program", .fn ("", "_law_a_program")), ("_law_whole", .fn ("", "_law_whole")), ("_law_is_name", .fn ("", "_law_is_name")), ("_law_is_expression", .fn ("", "_law_is_expression")), ("_law_operands", .fn ("", "_law_operands")), ("_law_is_program", .fn ("", "_law_is_program")), ("_law_a_known", .fn ("", "_law_a_known")), ("_law_has_tell", .fn ("", "_law_has_tell")), ("_law_folded", .fn ("", "_law_folded"))]
def bl : List Str := ["any", "bool", "int", "isinstance", "len", "max", "min", "range", "str", "sum", "tuple", "zip"]
def at_ : List Str := []
def Gl : Glb := glbOf gl bl at_
abbrev s_p_within : Stmt := top 2
def b_p_within (call : CallT) : MS :=
 sSeq (sAsg (gName 1) (eOp2 opIx (eC c_FORMS) (eOp2 opIx (eVar 0) (eC (.int 0)))))
 (sSeq (sRet (eComp (iZip (eVar 1) (eSl (eVar 0) (ePart (eC (.int 1))) ePartN)) [2, 3] (Tgt.sem (.tup [2, 3])) (tBl (eOp2 opIn (eVar 2) (eC (.str "ep")))) (eVar 3)))
 (sNext))
def d_p_within : DefD := ⟨("", "within"), "within", "within", s_p_within, ["expression", "form", "letter", "part"], ["expression"], b_p_within⟩

abbrev s_p_reckoned : Stmt := top 3
def b_p_reckoned (call : CallT) : MS :=
 sSeq (sIf (tBl (eOp2 opEq (eVar 0) (eC (.str "plus"))))
  (sSeq (sRet (eOp2 opAdd (eVar 1) (eVar 2)))
   (sNext))
  (sNext))
 (sSeq (sRet (eFn fInt (eCons (eOp2 opLt (eVar 1) (eVar 2)) eNil)))
 (sNext))
def d_p_reckoned : DefD := ⟨("", "reckoned"), "reckoned", "reckoned", s_p_reckoned, ["word", "one", "other"], ["word", "one", "other"], b_p_reckoned⟩

abbrev s_p_is_simple : Stmt := top 5
def b_p_is_simple (call : CallT) : MS :=
 sSeq (sRet (eOp2 opIn (eOp2 opIx (eVar 0) (eC (.int 0))) (eTup (eCons (eC (.str "num")) (eCons (eC (.str "name")) eNil)))))
 (sNext)
def d_p_is_simple : DefD := ⟨("", "is_simple"), "is_simple", "is_simple", s_p_is_simple, ["expression"], ["expression"], b_p_is_simple⟩

abbrev s_p_has_tell : Stmt := top 6
def b_p_has_tell (call : CallT) : MS :=
 sSeq (sRet (eOr (eOp2 opEq (eOp2 opIx (eVar 0) (eC (.int 0))) (eC (.str "tell"))) (eFn fAny (eCons (eComp (iBs (eCall call ("", "within") (eCons (eVar 0) eNil))) [1] (gName 1) tYes (eCall call ("", "has_tell") (eCons (eVar 1) eNil))) eNil))))
 (sNext)
def d_p_has_tell : DefD := ⟨("", "has_tell"), "has_tell", "has_tell", s_p_has_tell, ["expression", "part"], ["expression"], b_p_has_tell⟩

abbrev s_p_fold_one : Stmt := top 7
def b_p_fold_one (call : CallT) : MS :=
 sSeq (sAsg (gName 1) (eOp2 opIx (eVar 0) (eC (.int 0))))
 (sSeq (sIf (tAnd (tBl (eOp2 opIn (eVar 1) (eTup (eCons (eC (.str "plus")) (eCons (eC (.str "less")) eNil))))) (tAnd (tBl (eOp2 opEq (eOp2 opIx (eOp2 opIx (eVar 0) (eC (.int 1))) (eC (.int 0))) (eC (.str "num")))) (tBl (eOp2 opEq (eOp2 opIx (eOp2 opIx (eVar 0) (eC (.int 2))) (eC (.int 0))) (eC (.str "num"))))))
  (sSeq (sRet (eTup (eCons (eC (.str "num")) (eCons (eCall call ("", "reckoned") (eCons (eVar 1) (eCons (eOp2 opIx (eOp2 opIx (eVar 0) (eC (.int 1))) (eC (.int 1))) (eCons (eOp2 opIx (eOp2 opIx (eVar 0) (eC (.int 2))) (eC (.int 1))) eNil)))) eNil))))
   (sNext))
  (sNext))
 (sSeq (sIf (tAnd (tBl (eOp2 opEq (eVar 1) (eC (.str "if")))) (tBl (eOp2 opEq (eOp2 opIx (eOp2 opIx (eVar 0) (eC (.int 1))) (eC (.int 0))) (eC (.str "num")))))
  (sSeq (sRet (eOp2 opIx (eVar 0) (eOp2 opSub (eC (.int 3)) (eFn fInt (eCons (eOp2 opNe (eOp2 opIx (eOp2 opIx (eVar 0) (eC (.int 1))) (eC (.int 1))) (eC (.int 0))) eNil)))))
   (sNext))
  (sNext))
 (sSeq (sIf (tAnd (tBl (eOp2 opEq (eVar 1) (eC (.str "let")))) (tAnd (tTru (eCall call ("", "is_simple") (eCons (eOp2 opIx (eVar 0) (eC (.int 2))) eNil))) (tBl (eOp2 opEq (eOp2 opIx (eOp2 opIx (eVar 0) (eC (.int 3))) (eC (.int 0))) (eC (.str "num"))))))
  (sSeq (sRet (eOp2 opIx (eVar 0) (eC (.int 3))))
   (sNext))
  (sNext))
 (sSeq (sIf (tAnd (tBl (eOp2 opIn (eVar 1) (eTup (eCons (eC (.str "look")) (eCons (eC (.str "way")) (eCons (eC (.str "anew")) eNil)))))) (tTru (eCall call ("", "is_simple") (eCons (eOp2 opIx (eVar 0) (eOp1 unNeg (eC (.int 1)))) eNil))))
  (sSeq (sRet (eOp2 opIx (eVar 0) (eOp1 unNeg (eC (.int 1)))))
   (sNext))
  (sNext))
 (sSeq (sIf (tAnd (tBl (eOp2 opEq (eVar 1) (eC (.str "clean")))) (tAnd (tTru (eCall call ("", "is_simple") (eCons (eOp2 opIx (eVar 0) (eC (.int 2))) eNil))) (tNot (tTru (eCall call ("", "has_tell") (eCons (eOp2 opIx (eVar 0) (eC (.int 1))) eNil))))))
  (sSeq (sRet (eOp2 opIx (eVar 0) (eC (.int 2))))
   (sNext))
  (sNext))
 (sSeq (sRet (eVar 0))
 (sNext)))))))
def d_p_fold_one : DefD := ⟨("", "fold_one"), "fold_one", "fold_one", s_p_fold_one, ["expression", "word"], ["expression"], b_p_fold_one⟩

abbrev s_p_fold : Stmt := top 8
def b_p_fold (call : CallT) : MS :=
 sSeq (sAsg (gName 1) (eLst (eCons (eOp2 opIx (eVar 0) (eC (.int 0))) eNil)))
 (sSeq (sFor (iZip (eOp2 opIx (eC c_FORMS) (eOp2 opIx (eVar 0) (eC (.int 0)))) (eSl (eVar 0) (ePart (eC (.int 1))) ePartN)) (Vm.gTup (Vm.gCons (gName 2) (Vm.gCons (gName 3) Vm.gNil)))
  (sSeq (sIf (tBl (eOp2 opIn (eVar 2) (eC (.str "ep"))))
    (sSeq (sExpr (eMt isL mAppend (eVar 1) (eCons (eCall call ("", "fold") (eCons (eVar 3) eNil)) eNil)))
     (sNext))
    (sSeq (sExpr (eMt isL mAppend (eVar 1) (eCons (eVar 3) eNil)))
     (sNext)))
   (sNext)))
 (sSeq (sRet (eCall call ("", "fold_one") (eCons (eFn fTuple (eCons (eVar 1) eNil)) eNil)))
 (sNext)))
def d_p_fold : DefD := ⟨("", "fold"), "fold", "fold", s_p_fold, ["expression", "parts", "letter", "part"], ["expression"], b_p_fold⟩

abbrev s_p_folded : Stmt := top 9
def b_p_folded (call : CallT) : MS :=
 sSeq (sRet (eFn fTuple (eCons (eComp (iBs (eVar 0)) [1] (gName 1) tYes (eCall call ("", "fold") (eCons (eVar 1) eNil))) eNil)))
 (sNext)
def d_p_folded : DefD := ⟨("", "folded"), "folded", "folded", s_p_folded, ["program", "expression"], ["program"], b_p_folded⟩

abbrev s_law_cell_at : Stmt := top 11
def b_law_cell_at (call : CallT) : MS :=
 sSeq (sIf (tBl (eOp2 opLt (eVar 1) (eFn fLen (eCons (eVar 0) eNil))))
  (sSeq (sRet (eOp2 opIx (eVar 0) (eVar 1)))
   (sNext))
  (sNext))
 (sSeq (sRet (eC (.int 0)))
 (sNext))
def d_law_cell_at : DefD := ⟨("", "_law_cell_at"), "_law_cell_at", "_law_cell_at", s_law_cell_at, ["_law_script", "_law_k"], ["_law_script", "_law_k"], b_law_cell_at⟩

abbrev s_law_draws : Stmt := top 12
def b_law_draws (call : CallT) : MS :=
 sSeq (sAsg (gName 3) (eLst eNil))
 (sSeq (sAsg (gName 4) (eOp2 opMul (eVar 0) (eFn fInt (eCons (eOp2 opGe (eVar 0) (eOp2 opPow (eC (.int 10)) (eC (.int 18)))) eNil))))
 (sSeq (sAsg (gName 5) (eOp2 opMod (eVar 0) (eC (.int 2305843009213693951))))
 (sSeq (sFor (iRng1 (eOp2 opAdd (eVar 1) (eC (.int 3)))) (gName 6)
  (sSeq (sAsg (gName 5) (eOp2 opMod (eOp2 opAdd (eOp2 opAdd (eOp2 opAdd (eOp2 opMul (eVar 5) (eVar 5)) (eOp2 opMul (eC (.int 48271)) (eVar 5))) (eVar 6)) (eC (.int 1))) (eC (.int 2305843009213693951))))
   (sSeq (sIf (tAnd (tBl (eOp2 opGt (eVar 6) (eC (.int 2)))) (tBl (eOp2 opGt (eVar 4) (eC (.int 0)))))
    (sSeq (sExpr (eMt isL mAppend (eVar 3) (eCons (eOp2 opMod (eVar 4) (eVar 2)) eNil)))
     (sSeq (sAsg (gName 4) (eOp2 opDiv (eVar 4) (eVar 2)))
     (sNext)))
    (sSeq (sIf (tBl (eOp2 opGt (eVar 6) (eC (.int 2))))
      (sSeq (sExpr (eMt isL mAppend (eVar 3) (eCons (eOp2 opMod (eOp2 opDiv (eVar 5) (eC (.int 4096))) (eVar 2)) eNil)))
       (sNext))
      (sNext))
     (sNext)))
   (sNext))))
 (sSeq (sRet (eVar 3))
 (sNext)))))
def d_law_draws : DefD := ⟨("", "_law_draws"), "_law_draws", "_law_draws", s_law_draws, ["_law_cell", "_law_many", "_law_base", "_law_found", "_law_rest", "_law_stirred", "_law_k"], ["_law_cell", "_law_many", "_law_base"], b_law_draws⟩

abbrev s_law_a_tape : Stmt := top 13
def b_law_a_tape (call : CallT) : MS :=
 sSeq (sAsg (gName 2) (eCall call ("", "_law_cell_at") (eCons (eVar 0) (eCons (eVar 1) eNil))))
 (sSeq (sRet (eLst (eCons (eCall call ("", "_law_draws") (eCons (eVar 2) (eCons (eC (.int 400)) (eCons (eOp2 opPow (eC (.int 10)) (eC (.int 6))) eNil)))) (eCons (eC (.int 0)) eNil))))
 (sNext))
def d_law_a_tape : DefD := ⟨("", "_law_a_tape"), "_law_a_tape", "_law_a_tape", s_law_a_tape, ["_law_script", "_law_at", "_law_cell"], ["_law_script", "_law_at"], b_law_a_tape⟩

abbrev s_law_pick : Stmt := top 14
def b_law_pick (call : CallT) : MS :=
 sSeq (sAsg (gName 2) (eOp2 opMod (eOp2 opDiv (eOp2 opIx (eOp2 opIx (eVar 0) (eC (.int 0))) (eOp2 opMod (eOp2 opIx (eVar 0) (eC (.int 1))) (eC (.int 400)))) (eOp2 opAdd (eC (.int 1)) (eOp2 opDiv (eOp2 opIx (eVar 0) (eC (.int 1))) (eC (.int 400))))) (eVar 1)))
 (sSeq (sAsg (Vm.gSub (eVar 0) (eC (.int 1))) (eOp2 opAdd (eOp2 opIx (eVar 0) (eC (.int 1))) (eC (.int 1))))
 (sSeq (sRet (eVar 2))
 (sNext)))
def d_law_pick : DefD := ⟨("", "_law_pick"), "_law_pick", "_law_pick", s_law_pick, ["_law_tape", "_law_many", "_law_found"], ["_law_tape", "_law_many"], b_law_pick⟩

abbrev s_law_leaf : Stmt := top 15
def b_law_leaf (call : CallT) : MS :=
 sSeq (sAsg (gName 2) (eCall call ("", "_law_pick") (eCons (eVar 0) (eCons (eC (.int 5)) eNil))))
 (sSeq (sIf (tBl (eOp2 opEq (eVar 2) (eC (.int 0))))
  (sSeq (sAsg (gName 3) (eLst (eCons (eOp2 opSub (eCall call ("", "_law_pick") (eCons (eVar 0) (eCons (eC (.int 7)) eNil))) (eC (.int 3))) (eCons (eOp2 opMul (eCall call ("", "_law_pick") (eCons (eVar 0) (eCons (eOp2 opPow (eC (.int 10)) (eC (.int 6))) eNil))) (eOp2 opPow (eC (.int 10)) (eC (.int 30)))) eNil))))
   (sSeq (sRet (eTup (eCons (eC (.str "num")) (eCons (eOp2 opIx (eVar 3) (eFn fInt (eCons (eOp2 opEq (eCall call ("", "_law_pick") (eCons (eVar 0) (eCons (eC (.int 9)) eNil))) (eC (.int 0))) eNil))) eNil))))
   (sNext)))
  (sNext))
 (sSeq (sIf (tBl (eOp2 opEq (eVar 2) (eC (.int 1))))
  (sSeq (sRet (eTup (eCons (eC (.str "read")) eNil)))
   (sNext))
  (sNext))
 (sSeq (sRet (eTup (eCons (eC (.str "name")) (eCons (eOp2 opIx (eVar 1) (eCall call ("", "_law_pick") (eCons (eVar 0) (eCons (eFn fLen (eCons (eVar 1) eNil)) eNil)))) eNil))))
 (sNext))))
def d_law_leaf : DefD := ⟨("", "_law_leaf"), "_law_leaf", "_law_leaf", s_law_leaf, ["_law_tape", "_law_names", "_law_way", "_law_some"], ["_law_tape", "_law_names"], b_law_leaf⟩

abbrev s_law_a_plain : Stmt := top 16
def b_law_a_plain (call : CallT) : MS :=
 sSeq (sAsg (gName 3) (eOp2 opIx (eLst (eCons (eC (.str "num")) (eCons (eC (.str "name")) (eCons (eC (.str "plus")) (eCons (eC (.str "less")) (eCons (eC (.str "let")) (eCons (eC (.str "tell")) (eCons (eC (.str "if")) (eCons (eC (.str "tell")) eNil))))))))) (eCall call ("", "_law_pick") (eCons (eVar 0) (eCons (eC (.int 8)) eNil)))))
 (sSeq (sIf (tOr (tBl (eOp2 opLt (eVar 2) (eC (.int 2)))) (tBl (eOp2 opIn (eVar 3) (eTup (eCons (eC (.str "num")) (eCons (eC (.str "name")) eNil))))))
  (sSeq (sRet (eOp2 opIx (eLst (eCons (eTup (eCons (eC (.str "num")) (eCons (eOp2 opSub (eCall call ("", "_law_pick") (eCons (eVar 0) (eCons (eC (.int 9)) eNil))) (eC (.int 4))) eNil))) (eCons (eTup (eCons (eC (.str "name")) (eCons (eOp2 opIx (eVar 1) (eCall call ("", "_law_pick") (eCons (eVar 0) (eCons (eFn fLen (eCons (eVar 1) eNil)) eNil)))) eNil))) eNil))) (eCall call ("", "_law_pick") (eCons (eVar 0) (eCons (eC (.int 2)) eNil)))))
   (sNext))
  (sNext))
 (sSeq (sAsg (gName 4) (eComp (iRng1 (eMt isD mGet (eDct [((eC (.str "tell")), (eC (.int 1))), ((eC (.str "if")), (eC (.int 3)))]) (eCons (eVar 3) (eCons (eC (.int 2)) eNil)))) [5] (gName 5) tYes (eCall call ("", "_law_a_plain") (eCons (eVar 0) (eCons (eVar 1) (eCons (eOp2 opSub (eVar 2) (eC (.int 1))) eNil))))))
 (sSeq (sIf (tBl (eOp2 opEq (eVar 3) (eC (.str "let"))))
  (sSeq (sRet (eOp2 opAdd (eTup (eCons (eC (.str "let")) (eCons (eOp2 opIx (eVar 1) (eCall call ("", "_law_pick") (eCons (eVar 0) (eCons (eFn fLen (eCons (eVar 1) eNil)) eNil)))) eNil))) (eFn fTuple (eCons (eVar 4) eNil))))
   (sNext))
  (sNext))
 (sSeq (sRet (eOp2 opAdd (eTup (eCons (eVar 3) eNil)) (eFn fTuple (eCons (eVar 4) eNil))))
 (sNext)))))
def d_law_a_plain : DefD := ⟨("", "_law_a_plain"), "_law_a_plain", "_law_a_plain", s_law_a_plain, ["_law_tape", "_law_names", "_law_deep", "_law_word", "_law_parts", "_law_k"], ["_law_tape", "_law_names", "_law_deep"], b_law_a_plain⟩
def t_law_a_plain_4 (call : CallT) : MS := sSeq (sRet (eOp2 opAdd (eTup (eCons (eVar 3) eNil)) (eFn fTuple (eCons (eVar 4) eNil)))) (sNext)
def t_law_a_plain_3 (call : CallT) : MS := sSeq (sIf (tBl (eOp2 opEq (eVar 3) (eC (.str "let"))))
  (sSeq (sRet (eOp2 opAdd (eTup (eCons (eC (.str "let")) (eCons (eOp2 opIx (eVar 1) (eCall call ("", "_law_pick") (eCons (eVar 0) (eCons (eFn fLen (eCons (eVar 1) eNil)) eNil)))) eNil))) (eFn fTuple (eCons (eVar 4) eNil))))
   (sNext))
  (sNext)) (t_law_a_plain_4 call)
def t_law_a_plain_2 (call : CallT) : MS := sSeq (sAsg (gName 4) (eComp (iRng1 (eMt isD mGet (eDct [((eC (.str "tell")), (eC (.int 1))), ((eC (.str "if")), (eC (.int 3)))]) (eCons (eVar 3) (eCons (eC (.int 2)) eNil)))) [5] (gName 5) tYes (eCall call ("", "_law_a_plain") (eCons (eVar 0) (eCons (eVar 1) (eCons (eOp2 opSub (eVar 2) (eC (.int 1))) eNil)))))) (t_law_a_plain_3 call)
def t_law_a_plain_1 (call : CallT) : MS := sSeq (sIf (tOr (tBl (eOp2 opLt (eVar 2) (eC (.int 2)))) (tBl (eOp2 opIn (eVar 3) (eTup (eCons (eC (.str "num")) (eCons (eC (.str "name")) eNil))))))
  (sSeq (sRet (eOp2 opIx (eLst (eCons (eTup (eCons (eC (.str "num")) (eCons (eOp2 opSub (eCall call ("", "_law_pick") (eCons (eVar 0) (eCons (eC (.int 9)) eNil))) (eC (.int 4))) eNil))) (eCons (eTup (eCons (eC (.str "name")) (eCons (eOp2 opIx (eVar 1) (eCall call ("", "_law_pick") (eCons (eVar 0) (eCons (eFn fLen (eCons (eVar 1) eNil)) eNil)))) eNil))) eNil))) (eCall call ("", "_law_pick") (eCons (eVar 0) (eCons (eC (.int 2)) eNil)))))
   (sNext))
  (sNext)) (t_law_a_plain_2 call)
def t_law_a_plain_0 (call : CallT) : MS := sSeq (sAsg (gName 3) (eOp2 opIx (eLst (eCons (eC (.str "num")) (eCons (eC (.str "name")) (eCons (eC (.str "plus")) (eCons (eC (.str "less")) (eCons (eC (.str "let")) (eCons (eC (.str "tell")) (eCons (eC (.str "if")) (eCons (eC (.str "tell")) eNil))))))))) (eCall call ("", "_law_pick") (eCons (eVar 0) (eCons (eC (.int 8)) eNil))))) (t_law_a_plain_1 call)
theorem u_law_a_plain (call : CallT) : b_law_a_plain call = t_law_a_plain_0 call := rfl

abbrev s_law_grown : Stmt := top 17
def b_law_grown (call : CallT) : MS :=
 sSeq (sAsg (gName 5) (eLst (eCons (eC (.str "plus")) (eCons (eC (.str "less")) (eCons (eC (.str "if")) (eCons (eC (.str "let")) (eCons (eC (.str "tell")) (eCons (eC (.str "call")) (eCons (eC (.str "fault")) (eCons (eC (.str "take")) (eCons (eC (.str "look")) (eCons (eC (.str "way")) (eCons (eC (.str "anew")) (eCons (eC (.str "clean")) eNil))))))))))))))
 (sSeq (sAsg (gName 5) (eOp2 opAdd (eVar 5) (eLst (eCons (eC (.str "look")) (eCons (eC (.str "way")) (eCons (eC (.str "fault")) (eCons (eC (.str "take")) (eCons (eC (.str "look")) (eCons (eC (.str "fault")) eNil)))))))))
 (sSeq (sAsg (gName 6) (eOp2 opIx (eVar 5) (eCall call ("", "_law_pick") (eCons (eVar 0) (eCons (eC (.int 18)) eNil)))))
 (sSeq (sIf (tAnd (tBl (eOp2 opEq (eVar 6) (eC (.str "call")))) (tBl (eOp2 opEq (eVar 2) (eC (.int 0)))))
  (sSeq (sAsg (gName 6) (eC (.str "fault")))
   (sNext))
  (sNext))
 (sSeq (sIf (tAnd (tBl (eOp2 opEq (eVar 6) (eC (.str "clean")))) (tBl (eOp2 opLt (eVar 3) (eC (.int 3)))))
  (sSeq (sAsg (gName 6) (eC (.str "tell")))
   (sNext))
  (sNext))
 (sSeq (sIf (tOr (tBl (eOp2 opLt (eVar 3) (eC (.int 2)))) (tBl (eOp2 opLt (eOp2 opIx (eVar 4) (eC (.int 0))) (eC (.int 4)))))
  (sSeq (sAsg (Vm.gSub (eVar 4) (eC (.int 0))) (eOp2 opSub (eOp2 opIx (eVar 4) (eC (.int 0))) (eC (.int 1))))
   (sSeq (sRet (eCall call ("", "_law_leaf") (eCons (eVar 0) (eCons (eVar 1) eNil))))
   (sNext)))
  (sNext))
 (sSeq (sAsg (Vm.gSub (eVar 4) (eC (.int 0))) (eOp2 opSub (eOp2 opIx (eVar 4) (eC (.int 0))) (eC (.int 1))))
 (sSeq (sAsg (gName 7) (eOp2 opIx (eVar 1) (eCall call ("", "_law_pick") (eCons (eVar 0) (eCons (eFn fLen (eCons (eVar 1) eNil)) eNil)))))
 (sSeq (sIf (tAnd (tBl (eOp2 opIn (eVar 6) (eTup (eCons (eC (.str "fault")) (eCons (eC (.str "look")) eNil))))) (tBl (eOp2 opEq (eCall call ("", "_law_pick") (eCons (eVar 0) (eCons (eC (.int 6)) eNil))) (eC (.int 0)))))
  (sSeq (sAsg (gName 7) (eOp2 opIx (eLst (eCons (eC (.str "dry")) (eCons (eC (.str "noway")) eNil))) (eCall call ("", "_law_pick") (eCons (eVar 0) (eCons (eC (.int 2)) eNil)))))
   (sNext))
  (sNext))
 (sSeq (sAsg (gName 8) (eOp2 opIx (eLst (eCons (eOp2 opIx (eVar 1) (eCall call ("", "_law_pick") (eCons (eVar 0) (eCons (eFn fLen (eCons (eVar 1) eNil)) eNil)))) (eCons (eC (.str "on")) eNil))) (eFn fInt (eCons (eAnd (eOp2 opEq (eVar 6) (eC (.str "take"))) (eOp2 opEq (eCall call ("", "_law_pick") (eCons (eVar 0) (eCons (eC (.int 2)) eNil))) (eC (.int 0)))) eNil))))
 (sSeq (sIf (tBl (eOp2 opEq (eVar 6) (eC (.str "clean"))))
  (sSeq (sAsg (gName 12) (eTup (eCons (eC (.str "tell")) (eCons (eTup (eCons (eC (.str "num")) (eCons (eCall call ("", "_law_pick") (eCons (eVar 0) (eCons (eC (.int 50)) eNil))) eNil))) eNil))))
   (sSeq (sIf (tBl (eOp2 opEq (eCall call ("", "_law_pick") (eCons (eVar 0) (eCons (eC (.int 3)) eNil))) (eC (.int 0))))
    (sSeq (sAsg (gName 12) (eCall call ("", "_law_a_plain") (eCons (eVar 0) (eCons (eVar 1) (eCons (eFn fMin (eCons (eC (.int 3)) (eCons (eOp2 opSub (eVar 3) (eC (.int 1))) eNil))) eNil)))))
     (sNext))
    (sNext))
   (sSeq (sAsg (Vm.gSub (eVar 4) (eC (.int 0))) (eOp2 opSub (eOp2 opIx (eVar 4) (eC (.int 0))) (eC (.int 8))))
   (sSeq (sRet (eTup (eCons (eC (.str "clean")) (eCons (eVar 12) (eCons (eCall call ("", "_law_grown") (eCons (eVar 0) (eCons (eVar 1) (eCons (eVar 2) (eCons (eOp2 opSub (eVar 3) (eC (.int 1))) (eCons (eVar 4) eNil)))))) eNil)))))
   (sNext)))))
  (sNext))
 (sSeq (sIf (tAnd (tBl (eOp2 opIn (eVar 6) (eTup (eCons (eC (.str "way")) (eCons (eC (.str "anew")) eNil))))) (tBl (eOp2 opEq (eVar 7) (eC (.str "on")))))
  (sSeq (sAsg (gName 7) (eC (.str "a")))
   (sNext))
  (sNext))
 (sSeq (sAsg (gName 9) (eMt isD mGet (eDct [((eC (.str "plus")), (eC (.int 2))), ((eC (.str "less")), (eC (.int 2))), ((eC (.str "if")), (eC (.int 3))), ((eC (.str "let")), (eC (.int 2))), ((eC (.str "look")), (eC (.int 2))), ((eC (.str "way")), (eC (.int 2)))]) (eCons (eVar 6) (eCons (eC (.int 1)) eNil))))
 (sSeq (sAsg (gName 10) (eFn fTuple (eCons (eComp (iRng1 (eVar 9)) [13] (gName 13) tYes (eCall call ("", "_law_grown") (eCons (eVar 0) (eCons (eVar 1) (eCons (eVar 2) (eCons (eOp2 opSub (eVar 3) (eC (.int 1))) (eCons (eVar 4) eNil))))))) eNil)))
 (sSeq (sAsg (gName 11) (eDct [((eC (.str "let")), (eTup (eCons (eVar 7) eNil))), ((eC (.str "fault")), (eTup (eCons (eVar 7) eNil))), ((eC (.str "take")), (eTup (eCons (eVar 8) eNil))), ((eC (.str "look")), (eTup (eCons (eVar 7) (eCons (eOp2 opIx (eVar 1) (eC (.int 0))) eNil)))), ((eC (.str "way")), (eTup (eCons (eVar 7) (eCons (eOp2 opIx (eVar 1) (eOp1 unNeg (eC (.int 1)))) eNil))))]))
 (sSeq (sIf (tBl (eOp2 opEq (eVar 6) (eC (.str "call"))))
  (sSeq (sRet (eOp2 opAdd (eTup (eCons (eC (.str "call")) (eCons (eCall call ("", "_law_pick") (eCons (eVar 0) (eCons (eVar 2) eNil))) eNil))) (eVar 10)))
   (sNext))
  (sNext))
 (sSeq (sIf (tBl (eOp2 opEq (eVar 6) (eC (.str "anew"))))
  (sSeq (sRet (eOp2 opAdd (eTup (eCons (eC (.str "anew")) (eCons (eVar 7) (eCons (eCall call ("", "_law_pick") (eCons (eVar 0) (eCons (eC (.int 4)) eNil))) eNil)))) (eVar 10)))
   (sNext))
  (sNext))
 (sSeq (sRet (eOp2 opAdd (eOp2 opAdd (eTup (eCons (eVar 6) eNil)) (eMt isD mGet (eVar 11) (eCons (eVar 6) (eCons (eTup eNil) eNil)))) (eVar 10)))
 (sNext))))))))))))))))))
def d_law_grown : DefD := ⟨("", "_law_grown"), "_law_grown", "_law_grown", s_law_grown, ["_law_tape", "_law_names", "_law_body", "_law_deep", "_law_room", "_law_words", "_law_word", "_law_kind", "_law_way", "_law_many", "_law_parts", "_law_heads", "_law_c", "_law_k"], ["_law_tape", "_law_names", "_law_body", "_law_deep", "_law_room"], b_law_grown⟩
def t_law_grown_17 (call : CallT) : MS := sSeq (sRet (eOp2 opAdd (eOp2 opAdd (eTup (eCons (eVar 6) eNil)) (eMt isD mGet (eVar 11) (eCons (eVar 6) (eCons (eTup eNil) eNil)))) (eVar 10))) (sNext)
def t_law_grown_16 (call : CallT) : MS := sSeq (sIf (tBl (eOp2 opEq (eVar 6) (eC (.str "anew"))))
  (sSeq (sRet (eOp2 opAdd (eTup (eCons (eC (.str "anew")) (eCons (eVar 7) (eCons (eCall call ("", "_law_pick") (eCons (eVar 0) (eCons (eC (.int 4)) eNil))) eNil)))) (eVar 10)))
   (sNext))
  (sNext)) (t_law_grown_17 call)
def t_law_grown_15 (call : CallT) : MS := sSeq (sIf (tBl (eOp2 opEq (eVar 6) (eC (.str "call"))))
  (sSeq (sRet (eOp2 opAdd (eTup (eCons (eC (.str "call")) (eCons (eCall call ("", "_law_pick") (eCons (eVar 0) (eCons (eVar 2) eNil))) eNil))) (eVar 10)))
   (sNext))
  (sNext)) (t_law_grown_16 call)
def t_law_grown_14 (call : CallT) : MS := sSeq (sAsg (gName 11) (eDct [((eC (.str "let")), (eTup (eCons (eVar 7) eNil))), ((eC (.str "fault")), (eTup (eCons (eVar 7) eNil))), ((eC (.str "take")), (eTup (eCons (eVar 8) eNil))), ((eC (.str "look")), (eTup (eCons (eVar 7) (eCons (eOp2 opIx (eVar 1) (eC (.int 0))) eNil)))), ((eC (.str "way")), (eTup (eCons (eVar 7) (eCons (eOp2 opIx (eVar 1) (eOp1 unNeg (eC (.int 1)))) eNil))))])) (t_law_grown_15 call)
def t_law_grown_13 (call : CallT) : MS := sSeq (sAsg (gName 10) (eFn fTuple (eCons (eComp (iRng1 (eVar 9)) [13] (gName 13) tYes (eCall call ("", "_law_grown") (eCons (eVar 0) (eCons (eVar 1) (eCons (eVar 2) (eCons (eOp2 opSub (eVar 3) (eC (.int 1))) (eCons (eVar 4) eNil))))))) eNil))) (t_law_grown_14 call)
def t_law_grown_12 (call : CallT) : MS := sSeq (sAsg (gName 9) (eMt isD mGet (eDct [((eC (.str "plus")), (eC (.int 2))), ((eC (.str "less")), (eC (.int 2))), ((eC (.str "if")), (eC (.int 3))), ((eC (.str "let")), (eC (.int 2))), ((eC (.str "look")), (eC (.int 2))), ((eC (.str "way")), (eC (.int 2)))]) (eCons (eVar 6) (eCons (eC (.int 1)) eNil)))) (t_law_grown_13 call)
def t_law_grown_11 (call : CallT) : MS := sSeq (sIf (tAnd (tBl (eOp2 opIn (eVar 6) (eTup (eCons (eC (.str "way")) (eCons (eC (.str "anew")) eNil))))) (tBl (eOp2 opEq (eVar 7) (eC (.str "on")))))
  (sSeq (sAsg (gName 7) (eC (.str "a")))
   (sNext))
  (sNext)) (t_law_grown_12 call)
def t_law_grown_10 (call : CallT) : MS := sSeq (sIf (tBl (eOp2 opEq (eVar 6) (eC (.str "clean"))))
  (sSeq (sAsg (gName 12) (eTup (eCons (eC (.str "tell")) (eCons (eTup (eCons (eC (.str "num")) (eCons (eCall call ("", "_law_pick") (eCons (eVar 0) (eCons (eC (.int 50)) eNil))) eNil))) eNil))))
   (sSeq (sIf (tBl (eOp2 opEq (eCall call ("", "_law_pick") (eCons (eVar 0) (eCons (eC (.int 3)) eNil))) (eC (.int 0))))
    (sSeq (sAsg (gName 12) (eCall call ("", "_law_a_plain") (eCons (eVar 0) (eCons (eVar 1) (eCons (eFn fMin (eCons (eC (.int 3)) (eCons (eOp2 opSub (eVar 3) (eC (.int 1))) eNil))) eNil)))))
     (sNext))
    (sNext))
   (sSeq (sAsg (Vm.gSub (eVar 4) (eC (.int 0))) (eOp2 opSub (eOp2 opIx (eVar 4) (eC (.int 0))) (eC (.int 8))))
   (sSeq (sRet (eTup (eCons (eC (.str "clean")) (eCons (eVar 12) (eCons (eCall call ("", "_law_grown") (eCons (eVar 0) (eCons (eVar 1) (eCons (eVar 2) (eCons (eOp2 opSub (eVar 3) (eC (.int 1))) (eCons (eVar 4) eNil)))))) eNil)))))
   (sNext)))))
  (sNext)) (t_law_grown_11 call)
def t_law_grown_9 (call : CallT) : MS := sSeq (sAsg (gName 8) (eOp2 opIx (eLst (eCons (eOp2 opIx (eVar 1) (eCall call ("", "_law_pick") (eCons (eVar 0) (eCons (eFn fLen (eCons (eVar 1) eNil)) eNil)))) (eCons (eC (.str "on")) eNil))) (eFn fInt (eCons (eAnd (eOp2 opEq (eVar 6) (eC (.str "take"))) (eOp2 opEq (eCall call ("", "_law_pick") (eCons (eVar 0) (eCons (eC (.int 2)) eNil))) (eC (.int 0)))) eNil)))) (t_law_grown_10 call)
def t_law_grown_8 (call : CallT) : MS := sSeq (sIf (tAnd (tBl (eOp2 opIn (eVar 6) (eTup (eCons (eC (.str "fault")) (eCons (eC (.str "look")) eNil))))) (tBl (eOp2 opEq (eCall call ("", "_law_pick") (eCons (eVar 0) (eCons (eC (.int 6)) eNil))) (eC (.int 0)))))
  (sSeq (sAsg (gName 7) (eOp2 opIx (eLst (eCons (eC (.str "dry")) (eCons (eC (.str "noway")) eNil))) (eCall call ("", "_law_pick") (eCons (eVar 0) (eCons (eC (.int 2)) eNil)))))
   (sNext))
  (sNext)) (t_law_grown_9 call)
def t_law_grown_7 (call : CallT) : MS := sSeq (sAsg (gName 7) (eOp2 opIx (eVar 1) (eCall call ("", "_law_pick") (eCons (eVar 0) (eCons (eFn fLen (eCons (eVar 1) eNil)) eNil))))) (t_law_grown_8 call)
def t_law_grown_6 (call : CallT) : MS := sSeq (sAsg (Vm.gSub (eVar 4) (eC (.int 0))) (eOp2 opSub (eOp2 opIx (eVar 4) (eC (.int 0))) (eC (.int 1)))) (t_law_grown_7 call)
def t_law_grown_5 (call : CallT) : MS := sSeq (sIf (tOr (tBl (eOp2 opLt (eVar 3) (eC (.int 2)))) (tBl (eOp2 opLt (eOp2 opIx (eVar 4) (eC (.int 0))) (eC (.int 4)))))
  (sSeq (sAsg (Vm.gSub (eVar 4) (eC (.int 0))) (eOp2 opSub (eOp2 opIx (eVar 4) (eC (.int 0))) (eC (.int 1))))
   (sSeq (sRet (eCall call ("", "_law_leaf") (eCons (eVar 0) (eCons (eVar 1) eNil))))
   (sNext)))
  (sNext)) (t_law_grown_6 call)
def t_law_grown_4 (call : CallT) : MS := sSeq (sIf (tAnd (tBl (eOp2 opEq (eVar 6) (eC (.str "clean")))) (tBl (eOp2 opLt (eVar 3) (eC (.int 3)))))
  (sSeq (sAsg (gName 6) (eC (.str "tell")))
   (sNext))
  (sNext)) (t_law_grown_5 call)
def t_law_grown_3 (call : CallT) : MS := sSeq (sIf (tAnd (tBl (eOp2 opEq (eVar 6) (eC (.str "call")))) (tBl (eOp2 opEq (eVar 2) (eC (.int 0)))))
  (sSeq (sAsg (gName 6) (eC (.str "fault")))
   (sNext))
  (sNext)) (t_law_grown_4 call)
def t_law_grown_2 (call : CallT) : MS := sSeq (sAsg (gName 6) (eOp2 opIx (eVar 5) (eCall call ("", "_law_pick") (eCons (eVar 0) (eCons (eC (.int 18)) eNil))))) (t_law_grown_3 call)
def t_law_grown_1 (call : CallT) : MS := sSeq (sAsg (gName 5) (eOp2 opAdd (eVar 5) (eLst (eCons (eC (.str "look")) (eCons (eC (.str "way")) (eCons (eC (.str "fault")) (eCons (eC (.str "take")) (eCons (eC (.str "look")) (eCons (eC (.str "fault")) eNil))))))))) (t_law_grown_2 call)
def t_law_grown_0 (call : CallT) : MS := sSeq (sAsg (gName 5) (eLst (eCons (eC (.str "plus")) (eCons (eC (.str "less")) (eCons (eC (.str "if")) (eCons (eC (.str "let")) (eCons (eC (.str "tell")) (eCons (eC (.str "call")) (eCons (eC (.str "fault")) (eCons (eC (.str "take")) (eCons (eC (.str "look")) (eCons (eC (.str "way")) (eCons (eC (.str "anew")) (eCons (eC (.str "clean")) eNil)))))))))))))) (t_law_grown_1 call)
theorem u_law_grown (call : CallT) : b_law_grown call = t_law_grown_0 call := rfl

abbrev s_law_within : Stmt := top 18
def b_law_within (call : CallT) : MS :=
 sSeq (sRet (eComp (iBs (eSl (eVar 0) (ePart (eC (.int 1))) ePartN)) [1] (gName 1) (tTru (eIsTy ["tuple"] (eVar 1))) (eVar 1)))
 (sNext)
def d_law_within : DefD := ⟨("", "_law_within"), "_law_within", "_law_within", s_law_within, ["_law_expression", "_law_part"], ["_law_expression"], b_law_within⟩

abbrev s_law_count : Stmt := top 19
def b_law_count (call : CallT) : MS :=
 sSeq (sRet (eOp2 opAdd (eC (.int 1)) (eFn fSum (eCons (eComp (iBs (eCall call ("", "_law_within") (eCons (eVar 0) eNil))) [1] (gName 1) tYes (eCall call ("", "_law_count") (eCons (eVar 1) eNil))) eNil))))
 (sNext)
def d_law_count : DefD := ⟨("", "_law_count"), "_law_count", "_law_count", s_law_count, ["_law_expression", "_law_part"], ["_law_expression"], b_law_count⟩

abbrev s_law_a_program : Stmt := top 20
def b_law_a_program (call : CallT) : MS :=
 sSeq (sAsg (gName 2) (eCall call ("", "_law_a_tape") (eCons (eVar 0) (eCons (eVar 1) eNil))))
 (sSeq (sAsg (gName 3) (eLst (eCons (eLst (eCons (eC (.str "a")) (eCons (eC (.str "b")) (eCons (eC (.str "x")) eNil)))) (eCons (eLst (eCons (eC (.str "x")) (eCons (eC (.str "k")) (eCons (eC (.str "kk")) (eCons (eC (.str "kkk")) eNil))))) (eCons (eLst (eCons (eC (.str "abcdefgh")) (eCons (eC (.str "abcdefgx")) (eCons (eC (.str "x")) eNil)))) (eCons (eLst (eCons (eC (.str "on")) (eCons (eC (.str "x")) (eCons (eC (.str "no")) eNil)))) eNil))))))
 (sSeq (sAsg (gName 3) (eOp2 opIx (eVar 3) (eCall call ("", "_law_pick") (eCons (eVar 2) (eCons (eC (.int 4)) eNil)))))
 (sSeq (sAsg (gName 4) (eLst eNil))
 (sSeq (sAsg (gName 5) (eLst (eCons (eC (.int 64)) eNil)))
 (sSeq (sFor (iRng1 (eOp2 opAdd (eC (.int 1)) (eCall call ("", "_law_pick") (eCons (eVar 2) (eCons (eC (.int 4)) eNil))))) (gName 6)
  (sSeq (sAsg (gName 7) (eLst (eCons (eFn fMin (eCons (eOp2 opIx (eVar 5) (eC (.int 0))) (eCons (eOp2 opIx (eLst (eCons (eC (.int 12)) (eCons (eC (.int 24)) (eCons (eC (.int 48)) eNil)))) (eCall call ("", "_law_pick") (eCons (eVar 2) (eCons (eC (.int 3)) eNil)))) eNil))) eNil)))
   (sSeq (sAsg (gName 8) (eOp2 opIx (eVar 7) (eC (.int 0))))
   (sSeq (sExpr (eMt isL mAppend (eVar 4) (eCons (eCall call ("", "_law_grown") (eCons (eVar 2) (eCons (eVar 3) (eCons (eVar 6) (eCons (eOp2 opAdd (eC (.int 3)) (eCall call ("", "_law_pick") (eCons (eVar 2) (eCons (eC (.int 6)) eNil)))) (eCons (eVar 7) eNil)))))) eNil)))
   (sSeq (sAsg (Vm.gSub (eVar 5) (eC (.int 0))) (eFn fMax (eCons (eC (.int 4)) (eCons (eOp2 opSub (eOp2 opAdd (eOp2 opSub (eOp2 opIx (eVar 5) (eC (.int 0))) (eVar 8)) (eOp2 opIx (eVar 7) (eC (.int 0)))) (eC (.int 2))) eNil))))
   (sNext))))))
 (sSeq (sIf (tBl (eOp2 opGt (eFn fSum (eCons (eComp (iBs (eVar 4)) [7] (gName 7) tYes (eCall call ("", "_law_count") (eCons (eVar 7) eNil))) eNil)) (eC (.int 80))))
  (sSeq (sRet (eOr (eOp2 opMul (eTup (eCons (eOp2 opIx (eVar 4) (eC (.int 0))) eNil)) (eFn fInt (eCons (eOp2 opLt (eCall call ("", "_law_count") (eCons (eOp2 opIx (eVar 4) (eC (.int 0))) eNil)) (eC (.int 81))) eNil))) (eTup (eCons (eTup (eCons (eC (.str "fault")) (eCons (eC (.str "a")) (eCons (eTup (eCons (eC (.str "read")) eNil)) eNil)))) eNil))))
   (sNext))
  (sNext))
 (sSeq (sRet (eFn fTuple (eCons (eVar 4) eNil)))
 (sNext))))))))
def d_law_a_program : DefD := ⟨("", "_law_a_program"), "_law_a_program", "_law_a_program", s_law_a_program, ["_law_script", "_law_at", "_law_tape", "_law_names", "_law_bodies", "_law_room", "_law_body", "_law_part", "_law_begun"], ["_law_script", "_law_at"], b_law_a_program⟩
def t_law_a_program_7 (call : CallT) : MS := sSeq (sRet (eFn fTuple (eCons (eVar 4) eNil))) (sNext)
def t_law_a_program_6 (call : CallT) : MS := sSeq (sIf (tBl (eOp2 opGt (eFn fSum (eCons (eComp (iBs (eVar 4)) [7] (gName 7) tYes (eCall call ("", "_law_count") (eCons (eVar 7) eNil))) eNil)) (eC (.int 80))))
  (sSeq (sRet (eOr (eOp2 opMul (eTup (eCons (eOp2 opIx (eVar 4) (eC (.int 0))) eNil)) (eFn fInt (eCons (eOp2 opLt (eCall call ("", "_law_count") (eCons (eOp2 opIx (eVar 4) (eC (.int 0))) eNil)) (eC (.int 81))) eNil))) (eTup (eCons (eTup (eCons (eC (.str "fault")) (eCons (eC (.str "a")) (eCons (eTup (eCons (eC (.str "read")) eNil)) eNil)))) eNil))))
   (sNext))
  (sNext)) (t_law_a_program_7 call)
def t_law_a_program_5 (call : CallT) : MS := sSeq (sFor (iRng1 (eOp2 opAdd (eC (.int 1)) (eCall call ("", "_law_pick") (eCons (eVar 2) (eCons (eC (.int 4)) eNil))))) (gName 6)
  (sSeq (sAsg (gName 7) (eLst (eCons (eFn fMin (eCons (eOp2 opIx (eVar 5) (eC (.int 0))) (eCons (eOp2 opIx (eLst (eCons (eC (.int 12)) (eCons (eC (.int 24)) (eCons (eC (.int 48)) eNil)))) (eCall call ("", "_law_pick") (eCons (eVar 2) (eCons (eC (.int 3)) eNil)))) eNil))) eNil)))
   (sSeq (sAsg (gName 8) (eOp2 opIx (eVar 7) (eC (.int 0))))
   (sSeq (sExpr (eMt isL mAppend (eVar 4) (eCons (eCall call ("", "_law_grown") (eCons (eVar 2) (eCons (eVar 3) (eCons (eVar 6) (eCons (eOp2 opAdd (eC (.int 3)) (eCall call ("", "_law_pick") (eCons (eVar 2) (eCons (eC (.int 6)) eNil)))) (eCons (eVar 7) eNil)))))) eNil)))
   (sSeq (sAsg (Vm.gSub (eVar 5) (eC (.int 0))) (eFn fMax (eCons (eC (.int 4)) (eCons (eOp2 opSub (eOp2 opAdd (eOp2 opSub (eOp2 opIx (eVar 5) (eC (.int 0))) (eVar 8)) (eOp2 opIx (eVar 7) (eC (.int 0)))) (eC (.int 2))) eNil))))
   (sNext)))))) (t_law_a_program_6 call)
def t_law_a_program_4 (call : CallT) : MS := sSeq (sAsg (gName 5) (eLst (eCons (eC (.int 64)) eNil))) (t_law_a_program_5 call)
def t_law_a_program_3 (call : CallT) : MS := sSeq (sAsg (gName 4) (eLst eNil)) (t_law_a_program_4 call)
def t_law_a_program_2 (call : CallT) : MS := sSeq (sAsg (gName 3) (eOp2 opIx (eVar 3) (eCall call ("", "_law_pick") (eCons (eVar 2) (eCons (eC (.int 4)) eNil))))) (t_law_a_program_3 call)
def t_law_a_program_1 (call : CallT) : MS := sSeq (sAsg (gName 3) (eLst (eCons (eLst (eCons (eC (.str "a")) (eCons (eC (.str "b")) (eCons (eC (.str "x")) eNil)))) (eCons (eLst (eCons (eC (.str "x")) (eCons (eC (.str "k")) (eCons (eC (.str "kk")) (eCons (eC (.str "kkk")) eNil))))) (eCons (eLst (eCons (eC (.str "abcdefgh")) (eCons (eC (.str "abcdefgx")) (eCons (eC (.str "x")) eNil)))) (eCons (eLst (eCons (eC (.str "on")) (eCons (eC (.str "x")) (eCons (eC (.str "no")) eNil)))) eNil)))))) (t_law_a_program_2 call)
def t_law_a_program_0 (call : CallT) : MS := sSeq (sAsg (gName 2) (eCall call ("", "_law_a_tape") (eCons (eVar 0) (eCons (eVar 1) eNil)))) (t_law_a_program_1 call)
theorem u_law_a_program (call : CallT) : b_law_a_program call = t_law_a_program_0 call := rfl

abbrev s_law_whole : Stmt := top 21
def b_law_whole (call : CallT) : MS :=
 sSeq (sRet (eAnd (eIsTy ["int"] (eVar 0)) (eBl (tNot (tTru (eIsTy ["bool"] (eVar 0)))))))
 (sNext)
def d_law_whole : DefD := ⟨("", "_law_whole"), "_law_whole", "_law_whole", s_law_whole, ["_law_found"], ["_law_found"], b_law_whole⟩

abbrev s_law_is_name : Stmt := top 22
def b_law_is_name (call : CallT) : MS :=
 sSeq (sIf (tOr (tNot (tTru (eIsTy ["str"] (eVar 0)))) (tOr (tBl (eOp2 opLt (eFn fLen (eCons (eVar 0) eNil)) (eC (.int 1)))) (tBl (eOp2 opGt (eFn fLen (eCons (eVar 0) eNil)) (eC (.int 8))))))
  (sSeq (sRet (eC (.bl false)))
   (sNext))
  (sNext))
 (sSeq (sRet (eOp2 opEq (eComp (iBs (eVar 0)) [1] (gName 1) (tBl (eOp2 opNotIn (eVar 1) (eC (.str "abcdefghijklmnopqrstuvwxyz")))) (eVar 1)) (eLst eNil)))
 (sNext))
def d_law_is_name : DefD := ⟨("", "_law_is_name"), "_law_is_name", "_law_is_name", s_law_is_name, ["_law_thing", "_law_sign"], ["_law_thing"], b_law_is_name⟩

abbrev s_law_is_expression : Stmt := top 23
def b_law_is_expression (call : CallT) : MS :=
 sSeq (sAsg (gName 4) (eDct [((eC (.str "num")), (eC (.str "n"))), ((eC (.str "name")), (eC (.str "x"))), ((eC (.str "plus")), (eC (.str "ee"))), ((eC (.str "less")), (eC (.str "ee"))), ((eC (.str "if")), (eC (.str "eee"))), ((eC (.str "let")), (eC (.str "xee"))), ((eC (.str "read")), (eC (.str ""))), ((eC (.str "tell")), (eC (.str "e")))]))
 (sSeq (sIf (tOr (tNot (tTru (eIsTy ["tuple"] (eVar 0)))) (tOr (tBl (eOp2 opEq (eVar 0) (eTup eNil))) (tOr (tNot (tTru (eIsTy ["str"] (eOp2 opIx (eVar 0) (eC (.int 0)))))) (tBl (eOp2 opEq (eVar 2) (eC (.int 0)))))))
  (sSeq (sRet (eC (.bl false)))
   (sNext))
  (sNext))
 (sSeq (sAsg (gName 5) (eDct [((eC (.str "call")), (eC (.str "ke"))), ((eC (.str "fault")), (eC (.str "xe"))), ((eC (.str "take")), (eC (.str "xe"))), ((eC (.str "look")), (eC (.str "xxee"))), ((eC (.str "way")), (eC (.str "wxee"))), ((eC (.str "anew")), (eC (.str "wte"))), ((eC (.str "clean")), (eC (.str "pe")))]))
 (sSeq (sAsg (gName 6) (eOp2 opIx (eVar 0) (eC (.int 0))))
 (sSeq (sIf (tOr (tAnd (tBl (eOp2 opNotIn (eVar 6) (eVar 4))) (tOr (tTru (eVar 3)) (tBl (eOp2 opNotIn (eVar 6) (eVar 5))))) (tAnd (tTru (eVar 3)) (tBl (eOp2 opEq (eVar 6) (eC (.str "read"))))))
  (sSeq (sRet (eC (.bl false)))
   (sNext))
  (sNext))
 (sSeq (sAsg (gName 7) (eMt isD mGet (eVar 4) (eCons (eVar 6) (eCons (eMt isD mGet (eVar 5) (eCons (eVar 6) (eCons (eC (.str "")) eNil))) eNil))))
 (sSeq (sIf (tBl (eOp2 opNe (eFn fLen (eCons (eVar 7) eNil)) (eOp2 opSub (eFn fLen (eCons (eVar 0) eNil)) (eC (.int 1)))))
  (sSeq (sRet (eC (.bl false)))
   (sNext))
  (sNext))
 (sSeq (sRet (eCall call ("", "_law_operands") (eCons (eVar 7) (eCons (eSl (eVar 0) (ePart (eC (.int 1))) ePartN) (eCons (eVar 1) (eCons (eVar 2) (eCons (eVar 3) eNil)))))))
 (sNext))))))))
def d_law_is_expression : DefD := ⟨("", "_law_is_expression"), "_law_is_expression", "_law_is_expression", s_law_is_expression, ["_law_thing", "_law_body", "_law_deep", "_law_plain", "_law_forms", "_law_more", "_law_word", "_law_form"], ["_law_thing", "_law_body", "_law_deep", "_law_plain"], b_law_is_expression⟩
def t_law_is_expression_7 (call : CallT) : MS := sSeq (sRet (eCall call ("", "_law_operands") (eCons (eVar 7) (eCons (eSl (eVar 0) (ePart (eC (.int 1))) ePartN) (eCons (eVar 1) (eCons (eVar 2) (eCons (eVar 3) eNil))))))) (sNext)
def t_law_is_expression_6 (call : CallT) : MS := sSeq (sIf (tBl (eOp2 opNe (eFn fLen (eCons (eVar 7) eNil)) (eOp2 opSub (eFn fLen (eCons (eVar 0) eNil)) (eC (.int 1)))))
  (sSeq (sRet (eC (.bl false)))
   (sNext))
  (sNext)) (t_law_is_expression_7 call)
def t_law_is_expression_5 (call : CallT) : MS := sSeq (sAsg (gName 7) (eMt isD mGet (eVar 4) (eCons (eVar 6) (eCons (eMt isD mGet (eVar 5) (eCons (eVar 6) (eCons (eC (.str "")) eNil))) eNil)))) (t_law_is_expression_6 call)
def t_law_is_expression_4 (call : CallT) : MS := sSeq (sIf (tOr (tAnd (tBl (eOp2 opNotIn (eVar 6) (eVar 4))) (tOr (tTru (eVar 3)) (tBl (eOp2 opNotIn (eVar 6) (eVar 5))))) (tAnd (tTru (eVar 3)) (tBl (eOp2 opEq (eVar 6) (eC (.str "read"))))))
  (sSeq (sRet (eC (.bl false)))
   (sNext))
  (sNext)) (t_law_is_expression_5 call)
def t_law_is_expression_3 (call : CallT) : MS := sSeq (sAsg (gName 6) (eOp2 opIx (eVar 0) (eC (.int 0)))) (t_law_is_expression_4 call)
def t_law_is_expression_2 (call : CallT) : MS := sSeq (sAsg (gName 5) (eDct [((eC (.str "call")), (eC (.str "ke"))), ((eC (.str "fault")), (eC (.str "xe"))), ((eC (.str "take")), (eC (.str "xe"))), ((eC (.str "look")), (eC (.str "xxee"))), ((eC (.str "way")), (eC (.str "wxee"))), ((eC (.str "anew")), (eC (.str "wte"))), ((eC (.str "clean")), (eC (.str "pe")))])) (t_law_is_expression_3 call)
def t_law_is_expression_1 (call : CallT) : MS := sSeq (sIf (tOr (tNot (tTru (eIsTy ["tuple"] (eVar 0)))) (tOr (tBl (eOp2 opEq (eVar 0) (eTup eNil))) (tOr (tNot (tTru (eIsTy ["str"] (eOp2 opIx (eVar 0) (eC (.int 0)))))) (tBl (eOp2 opEq (eVar 2) (eC (.int 0)))))))
  (sSeq (sRet (eC (.bl false)))
   (sNext))
  (sNext)) (t_law_is_expression_2 call)
def t_law_is_expression_0 (call : CallT) : MS := sSeq (sAsg (gName 4) (eDct [((eC (.str "num")), (eC (.str "n"))), ((eC (.str "name")), (eC (.str "x"))), ((eC (.str "plus")), (eC (.str "ee"))), ((eC (.str "less")), (eC (.str "ee"))), ((eC (.str "if")), (eC (.str "eee"))), ((eC (.str "let")), (eC (.str "xee"))), ((eC (.str "read")), (eC (.str ""))), ((eC (.str "tell")), (eC (.str "e")))])) (t_law_is_expression_1 call)
theorem u_law_is_expression (call : CallT) : b_law_is_expression call = t_law_is_expression_0 call := rfl

abbrev s_law_operands : Stmt := top 24
def b_law_operands (call : CallT) : MS :=
 sSeq (sFor (iZip (eVar 0) (eVar 1)) (Vm.gTup (Vm.gCons (gName 5) (Vm.gCons (gName 6) Vm.gNil)))
  (sSeq (sIf (tBl (eOp2 opIn (eVar 5) (eC (.str "ep"))))
    (sSeq (sAsg (gName 7) (eCall call ("", "_law_is_expression") (eCons (eVar 6) (eCons (eVar 2) (eCons (eOp2 opSub (eVar 3) (eC (.int 1))) (eCons (eOr (eVar 4) (eOp2 opEq (eVar 5) (eC (.str "p")))) eNil))))))
     (sNext))
    (sSeq (sIf (tBl (eOp2 opIn (eVar 5) (eC (.str "xw"))))
      (sSeq (sAsg (gName 7) (eAnd (eCall call ("", "_law_is_name") (eCons (eVar 6) eNil)) (eOr (eOp2 opEq (eVar 5) (eC (.str "x"))) (eOp2 opNe (eVar 6) (eC (.str "on"))))))
       (sNext))
      (sSeq (sAsg (gName 7) (eAnd (eCall call ("", "_law_whole") (eCons (eVar 6) eNil)) (eOr (eOp2 opEq (eVar 5) (eC (.str "n"))) (eChain opLe opLt (eC (.int 0)) (eVar 6) (eOp2 opIx (eLst (eCons (eC (.int 4)) (eCons (eVar 2) eNil))) (eFn fInt (eCons (eOp2 opEq (eVar 5) (eC (.str "k"))) eNil)))))))
       (sNext)))
     (sNext)))
   (sSeq (sIf (tNot (tTru (eVar 7)))
    (sSeq (sRet (eC (.bl false)))
     (sNext))
    (sNext))
   (sNext))))
 (sSeq (sRet (eC (.bl true)))
 (sNext))
def d_law_operands : DefD := ⟨("", "_law_operands"), "_law_operands", "_law_operands", s_law_operands, ["_law_form", "_law_parts", "_law_body", "_law_deep", "_law_plain", "_law_sign", "_law_part", "_law_good"], ["_law_form", "_law_parts", "_law_body", "_law_deep", "_law_plain"], b_law_operands⟩
def t_law_operands_1 (call : CallT) : MS := sSeq (sRet (eC (.bl true))) (sNext)
def t_law_operands_0 (call : CallT) : MS := sSeq (sFor (iZip (eVar 0) (eVar 1)) (Vm.gTup (Vm.gCons (gName 5) (Vm.gCons (gName 6) Vm.gNil)))
  (sSeq (sIf (tBl (eOp2 opIn (eVar 5) (eC (.str "ep"))))
    (sSeq (sAsg (gName 7) (eCall call ("", "_law_is_expression") (eCons (eVar 6) (eCons (eVar 2) (eCons (eOp2 opSub (eVar 3) (eC (.int 1))) (eCons (eOr (eVar 4) (eOp2 opEq (eVar 5) (eC (.str "p")))) eNil))))))
     (sNext))
    (sSeq (sIf (tBl (eOp2 opIn (eVar 5) (eC (.str "xw"))))
      (sSeq (sAsg (gName 7) (eAnd (eCall call ("", "_law_is_name") (eCons (eVar 6) eNil)) (eOr (eOp2 opEq (eVar 5) (eC (.str "x"))) (eOp2 opNe (eVar 6) (eC (.str "on"))))))
       (sNext))
      (sSeq (sAsg (gName 7) (eAnd (eCall call ("", "_law_whole") (eCons (eVar 6) eNil)) (eOr (eOp2 opEq (eVar 5) (eC (.str "n"))) (eChain opLe opLt (eC (.int 0)) (eVar 6) (eOp2 opIx (eLst (eCons (eC (.int 4)) (eCons (eVar 2) eNil))) (eFn fInt (eCons (eOp2 opEq (eVar 5) (eC (.str "k"))) eNil)))))))
       (sNext)))
     (sNext)))
   (sSeq (sIf (tNot (tTru (eVar 7)))
    (sSeq (sRet (eC (.bl false)))
     (sNext))
    (sNext))
   (sNext)))) (t_law_operands_1 call)
theorem u_law_operands (call : CallT) : b_law_operands call = t_law_operands_0 call := rfl

abbrev s_law_is_program : Stmt := top 25
def b_law_is_program (call : CallT) : MS :=
 sSeq (sIf (tOr (tNot (tTru (eIsTy ["tuple"] (eVar 0)))) (tOr (tBl (eOp2 opLt (eFn fLen (eCons (eVar 0) eNil)) (eC (.int 1)))) (tBl (eOp2 opGt (eFn fLen (eCons (eVar 0) eNil)) (eC (.int 4))))))
  (sSeq (sRet (eC (.bl false)))
   (sNext))
  (sNext))
 (sSeq (sFor (iRng1 (eFn fLen (eCons (eVar 0) eNil))) (gName 1)
  (sSeq (sIf (tNot (tTru (eCall call ("", "_law_is_expression") (eCons (eOp2 opIx (eVar 0) (eVar 1)) (eCons (eVar 1) (eCons (eC (.int 8)) (eCons (eC (.bl false)) eNil)))))))
    (sSeq (sRet (eC (.bl false)))
     (sNext))
    (sNext))
   (sNext)))
 (sSeq (sRet (eOp2 opLe (eFn fSum (eCons (eComp (iBs (eVar 0)) [2] (gName 2) tYes (eCall call ("", "_law_count") (eCons (eVar 2) eNil))) eNil)) (eC (.int 80))))
 (sNext)))
def d_law_is_program : DefD := ⟨("", "_law_is_program"), "_law_is_program", "_law_is_program", s_law_is_program, ["_law_thing", "_law_body", "_law_part"], ["_law_thing"], b_law_is_program⟩
def t_law_is_program_2 (call : CallT) : MS := sSeq (sRet (eOp2 opLe (eFn fSum (eCons (eComp (iBs (eVar 0)) [2] (gName 2) tYes (eCall call ("", "_law_count") (eCons (eVar 2) eNil))) eNil)) (eC (.int 80)))) (sNext)
def t_law_is_program_1 (call : CallT) : MS := sSeq (sFor (iRng1 (eFn fLen (eCons (eVar 0) eNil))) (gName 1)
  (sSeq (sIf (tNot (tTru (eCall call ("", "_law_is_expression") (eCons (eOp2 opIx (eVar 0) (eVar 1)) (eCons (eVar 1) (eCons (eC (.int 8)) (eCons (eC (.bl false)) eNil)))))))
    (sSeq (sRet (eC (.bl false)))
     (sNext))
    (sNext))
   (sNext))) (t_law_is_program_2 call)
def t_law_is_program_0 (call : CallT) : MS := sSeq (sIf (tOr (tNot (tTru (eIsTy ["tuple"] (eVar 0)))) (tOr (tBl (eOp2 opLt (eFn fLen (eCons (eVar 0) eNil)) (eC (.int 1)))) (tBl (eOp2 opGt (eFn fLen (eCons (eVar 0) eNil)) (eC (.int 4))))))
  (sSeq (sRet (eC (.bl false)))
   (sNext))
  (sNext)) (t_law_is_program_1 call)
theorem u_law_is_program (call : CallT) : b_law_is_program call = t_law_is_program_0 call := rfl

abbrev s_law_a_known : Stmt := top 26
def b_law_a_known (call : CallT) : MS :=
 sSeq (sAsg (gName 2) (eLst (eCons (eC (.str "num")) (eCons (eC (.str "num")) (eCons (eC (.str "name")) (eCons (eC (.str "plus")) (eCons (eC (.str "less")) (eCons (eC (.str "if")) (eCons (eC (.str "let")) (eCons (eC (.str "look")) (eCons (eC (.str "way")) (eCons (eC (.str "anew")) (eCons (eC (.str "clean")) (eCons (eC (.str "tell")) eNil))))))))))))))
 (sSeq (sAsg (gName 3) (eOp2 opIx (eVar 2) (eCall call ("", "_law_pick") (eCons (eVar 0) (eCons (eC (.int 12)) eNil)))))
 (sSeq (sIf (tOr (tBl (eOp2 opLt (eVar 1) (eC (.int 2)))) (tBl (eOp2 opIn (eVar 3) (eTup (eCons (eC (.str "num")) (eCons (eC (.str "name")) eNil))))))
  (sSeq (sRet (eOp2 opIx (eLst (eCons (eTup (eCons (eC (.str "num")) (eCons (eOp2 opSub (eCall call ("", "_law_pick") (eCons (eVar 0) (eCons (eC (.int 5)) eNil))) (eC (.int 2))) eNil))) (eCons (eTup (eCons (eC (.str "name")) (eCons (eC (.str "x")) eNil))) eNil))) (eFn fInt (eCons (eOp2 opEq (eVar 3) (eC (.str "name"))) eNil))))
   (sNext))
  (sNext))
 (sSeq (sIf (tBl (eOp2 opEq (eVar 3) (eC (.str "clean"))))
  (sSeq (sAsg (gName 7) (eOp2 opIx (eLst (eCons (eTup (eCons (eC (.str "num")) (eCons (eC (.int 1)) eNil))) (eCons (eTup (eCons (eC (.str "tell")) (eCons (eTup (eCons (eC (.str "num")) (eCons (eC (.int 2)) eNil))) eNil))) eNil))) (eOp2 opMul (eOp2 opDiv (eCall call ("", "_law_pick") (eCons (eVar 0) (eCons (eC (.int 4)) eNil))) (eC (.int 3))) (eFn fInt (eCons (eOp2 opGt (eVar 1) (eC (.int 2))) eNil)))))
   (sSeq (sRet (eTup (eCons (eC (.str "clean")) (eCons (eVar 7) (eCons (eCall call ("", "_law_a_known") (eCons (eVar 0) (eCons (eOp2 opSub (eVar 1) (eC (.int 1))) eNil))) eNil)))))
   (sNext)))
  (sNext))
 (sSeq (sAsg (gName 4) (eMt isD mGet (eDct [((eC (.str "plus")), (eC (.int 2))), ((eC (.str "less")), (eC (.int 2))), ((eC (.str "if")), (eC (.int 3))), ((eC (.str "let")), (eC (.int 2))), ((eC (.str "look")), (eC (.int 2))), ((eC (.str "way")), (eC (.int 2)))]) (eCons (eVar 3) (eCons (eC (.int 1)) eNil))))
 (sSeq (sAsg (gName 5) (eDct [((eC (.str "let")), (eTup (eCons (eC (.str "x")) eNil))), ((eC (.str "look")), (eTup (eCons (eC (.str "a")) (eCons (eC (.str "x")) eNil)))), ((eC (.str "way")), (eTup (eCons (eC (.str "w")) (eCons (eC (.str "x")) eNil)))), ((eC (.str "anew")), (eTup (eCons (eC (.str "w")) (eCons (eCall call ("", "_law_pick") (eCons (eVar 0) (eCons (eC (.int 4)) eNil))) eNil))))]))
 (sSeq (sAsg (gName 6) (eComp (iRng1 (eVar 4)) [8] (gName 8) tYes (eCall call ("", "_law_a_known") (eCons (eVar 0) (eCons (eOp2 opSub (eVar 1) (eC (.int 1))) eNil)))))
 (sSeq (sRet (eOp2 opAdd (eOp2 opAdd (eTup (eCons (eVar 3) eNil)) (eMt isD mGet (eVar 5) (eCons (eVar 3) (eCons (eTup eNil) eNil)))) (eFn fTuple (eCons (eVar 6) eNil))))
 (sNext))))))))
def d_law_a_known : DefD := ⟨("", "_law_a_known"), "_law_a_known", "_law_a_known", s_law_a_known, ["_law_tape", "_law_deep", "_law_words", "_law_word", "_law_many", "_law_heads", "_law_parts", "_law_c", "_law_k"], ["_law_tape", "_law_deep"], b_law_a_known⟩
def t_law_a_known_7 (call : CallT) : MS := sSeq (sRet (eOp2 opAdd (eOp2 opAdd (eTup (eCons (eVar 3) eNil)) (eMt isD mGet (eVar 5) (eCons (eVar 3) (eCons (eTup eNil) eNil)))) (eFn fTuple (eCons (eVar 6) eNil)))) (sNext)
def t_law_a_known_6 (call : CallT) : MS := sSeq (sAsg (gName 6) (eComp (iRng1 (eVar 4)) [8] (gName 8) tYes (eCall call ("", "_law_a_known") (eCons (eVar 0) (eCons (eOp2 opSub (eVar 1) (eC (.int 1))) eNil))))) (t_law_a_known_7 call)
def t_law_a_known_5 (call : CallT) : MS := sSeq (sAsg (gName 5) (eDct [((eC (.str "let")), (eTup (eCons (eC (.str "x")) eNil))), ((eC (.str "look")), (eTup (eCons (eC (.str "a")) (eCons (eC (.str "x")) eNil)))), ((eC (.str "way")), (eTup (eCons (eC (.str "w")) (eCons (eC (.str "x")) eNil)))), ((eC (.str "anew")), (eTup (eCons (eC (.str "w")) (eCons (eCall call ("", "_law_pick") (eCons (eVar 0) (eCons (eC (.int 4)) eNil))) eNil))))])) (t_law_a_known_6 call)
def t_law_a_known_4 (call : CallT) : MS := sSeq (sAsg (gName 4) (eMt isD mGet (eDct [((eC (.str "plus")), (eC (.int 2))), ((eC (.str "less")), (eC (.int 2))), ((eC (.str "if")), (eC (.int 3))), ((eC (.str "let")), (eC (.int 2))), ((eC (.str "look")), (eC (.int 2))), ((eC (.str "way")), (eC (.int 2)))]) (eCons (eVar 3) (eCons (eC (.int 1)) eNil)))) (t_law_a_known_5 call)
def t_law_a_known_3 (call : CallT) : MS := sSeq (sIf (tBl (eOp2 opEq (eVar 3) (eC (.str "clean"))))
  (sSeq (sAsg (gName 7) (eOp2 opIx (eLst (eCons (eTup (eCons (eC (.str "num")) (eCons (eC (.int 1)) eNil))) (eCons (eTup (eCons (eC (.str "tell")) (eCons (eTup (eCons (eC (.str "num")) (eCons (eC (.int 2)) eNil))) eNil))) eNil))) (eOp2 opMul (eOp2 opDiv (eCall call ("", "_law_pick") (eCons (eVar 0) (eCons (eC (.int 4)) eNil))) (eC (.int 3))) (eFn fInt (eCons (eOp2 opGt (eVar 1) (eC (.int 2))) eNil)))))
   (sSeq (sRet (eTup (eCons (eC (.str "clean")) (eCons (eVar 7) (eCons (eCall call ("", "_law_a_known") (eCons (eVar 0) (eCons (eOp2 opSub (eVar 1) (eC (.int 1))) eNil))) eNil)))))
   (sNext)))
  (sNext)) (t_law_a_known_4 call)
def t_law_a_known_2 (call : CallT) : MS := sSeq (sIf (tOr (tBl (eOp2 opLt (eVar 1) (eC (.int 2)))) (tBl (eOp2 opIn (eVar 3) (eTup (eCons (eC (.str "num")) (eCons (eC (.str "name")) eNil))))))
  (sSeq (sRet (eOp2 opIx (eLst (eCons (eTup (eCons (eC (.str "num")) (eCons (eOp2 opSub (eCall call ("", "_law_pick") (eCons (eVar 0) (eCons (eC (.int 5)) eNil))) (eC (.int 2))) eNil))) (eCons (eTup (eCons (eC (.str "name")) (eCons (eC (.str "x")) eNil))) eNil))) (eFn fInt (eCons (eOp2 opEq (eVar 3) (eC (.str "name"))) eNil))))
   (sNext))
  (sNext)) (t_law_a_known_3 call)
def t_law_a_known_1 (call : CallT) : MS := sSeq (sAsg (gName 3) (eOp2 opIx (eVar 2) (eCall call ("", "_law_pick") (eCons (eVar 0) (eCons (eC (.int 12)) eNil))))) (t_law_a_known_2 call)
def t_law_a_known_0 (call : CallT) : MS := sSeq (sAsg (gName 2) (eLst (eCons (eC (.str "num")) (eCons (eC (.str "num")) (eCons (eC (.str "name")) (eCons (eC (.str "plus")) (eCons (eC (.str "less")) (eCons (eC (.str "if")) (eCons (eC (.str "let")) (eCons (eC (.str "look")) (eCons (eC (.str "way")) (eCons (eC (.str "anew")) (eCons (eC (.str "clean")) (eCons (eC (.str "tell")) eNil)))))))))))))) (t_law_a_known_1 call)
theorem u_law_a_known (call : CallT) : b_law_a_known call = t_law_a_known_0 call := rfl

abbrev s_law_has_tell : Stmt := top 27
def b_law_has_tell (call : CallT) : MS :=
 sSeq (sRet (eOr (eOp2 opEq (eOp2 opIx (eVar 0) (eC (.int 0))) (eC (.str "tell"))) (eOp2 opNe (eComp (iBs (eCall call ("", "_law_within") (eCons (eVar 0) eNil))) [1] (gName 1) (tTru (eCall call ("", "_law_has_tell") (eCons (eVar 1) eNil))) (eVar 1)) (eLst eNil))))
 (sNext)
def d_law_has_tell : DefD := ⟨("", "_law_has_tell"), "_law_has_tell", "_law_has_tell", s_law_has_tell, ["_law_e", "_law_part"], ["_law_e"], b_law_has_tell⟩

abbrev s_law_folded : Stmt := top 28
def b_law_folded (call : CallT) : MS :=
 sSeq (sAsg (gName 1) (eLst eNil))
 (sSeq (sFor (iBs (eVar 0)) (gName 2)
  (sSeq (sExpr (eMt isL mAppend (eVar 1) (eCons (eIf (tTru (eIsTy ["tuple"] (eVar 2))) (eCall call ("", "_law_folded") (eCons (eVar 2) eNil)) (eVar 2)) eNil)))
   (sNext)))
 (sSeq (sAsg (gName 0) (eFn fTuple (eCons (eVar 1) eNil)))
 (sSeq (sAsg (gName 3) (eOp2 opIx (eVar 0) (eC (.int 0))))
 (sSeq (sIf (tAnd (tBl (eOp2 opIn (eVar 3) (eTup (eCons (eC (.str "plus")) (eCons (eC (.str "less")) eNil))))) (tBl (eOp2 opEq (eLst (eCons (eOp2 opIx (eOp2 opIx (eVar 0) (eC (.int 1))) (eC (.int 0))) (eCons (eOp2 opIx (eOp2 opIx (eVar 0) (eC (.int 2))) (eC (.int 0))) eNil))) (eLst (eCons (eC (.str "num")) (eCons (eC (.str "num")) eNil))))))
  (sSeq (sRet (eTup (eCons (eC (.str "num")) (eCons (eOp2 opIx (eLst (eCons (eOp2 opAdd (eOp2 opIx (eOp2 opIx (eVar 0) (eC (.int 1))) (eC (.int 1))) (eOp2 opIx (eOp2 opIx (eVar 0) (eC (.int 2))) (eC (.int 1)))) (eCons (eFn fInt (eCons (eOp2 opLt (eOp2 opIx (eOp2 opIx (eVar 0) (eC (.int 1))) (eC (.int 1))) (eOp2 opIx (eOp2 opIx (eVar 0) (eC (.int 2))) (eC (.int 1)))) eNil)) eNil))) (eFn fInt (eCons (eOp2 opEq (eVar 3) (eC (.str "less"))) eNil))) eNil))))
   (sNext))
  (sNext))
 (sSeq (sIf (tAnd (tBl (eOp2 opEq (eVar 3) (eC (.str "if")))) (tBl (eOp2 opEq (eOp2 opIx (eOp2 opIx (eVar 0) (eC (.int 1))) (eC (.int 0))) (eC (.str "num")))))
  (sSeq (sRet (eOp2 opIx (eLst (eCons (eOp2 opIx (eVar 0) (eC (.int 2))) (eCons (eOp2 opIx (eVar 0) (eC (.int 3))) eNil))) (eFn fInt (eCons (eOp2 opEq (eOp2 opIx (eOp2 opIx (eVar 0) (eC (.int 1))) (eC (.int 1))) (eC (.int 0))) eNil))))
   (sNext))
  (sNext))
 (sSeq (sAsg (gName 4) (eIf (tTru (eIsTy ["tuple"] (eOp2 opIx (eVar 0) (eOp1 unNeg (eC (.int 1)))))) (eOp2 opIn (eOp2 opIx (eOp2 opIx (eVar 0) (eOp1 unNeg (eC (.int 1)))) (eC (.int 0))) (eTup (eCons (eC (.str "num")) (eCons (eC (.str "name")) eNil)))) (eC (.bl false))))
 (sSeq (sIf (tAnd (tBl (eOp2 opEq (eVar 3) (eC (.str "let")))) (tAnd (tBl (eOp2 opEq (eOp2 opIx (eOp2 opIx (eVar 0) (eC (.int 3))) (eC (.int 0))) (eC (.str "num")))) (tBl (eOp2 opIn (eOp2 opIx (eOp2 opIx (eVar 0) (eC (.int 2))) (eC (.int 0))) (eTup (eCons (eC (.str "num")) (eCons (eC (.str "name")) eNil)))))))
  (sSeq (sRet (eOp2 opIx (eVar 0) (eC (.int 3))))
   (sNext))
  (sNext))
 (sSeq (sIf (tAnd (tBl (eOp2 opIn (eVar 3) (eTup (eCons (eC (.str "look")) (eCons (eC (.str "way")) (eCons (eC (.str "anew")) eNil)))))) (tTru (eVar 4)))
  (sSeq (sRet (eOp2 opIx (eVar 0) (eOp1 unNeg (eC (.int 1)))))
   (sNext))
  (sNext))
 (sSeq (sIf (tAnd (tBl (eOp2 opEq (eVar 3) (eC (.str "clean")))) (tAnd (tTru (eVar 4)) (tNot (tTru (eCall call ("", "_law_has_tell") (eCons (eOp2 opIx (eVar 0) (eC (.int 1))) eNil))))))
  (sSeq (sRet (eOp2 opIx (eVar 0) (eC (.int 2))))
   (sNext))
  (sNext))
 (sSeq (sRet (eVar 0))
 (sNext)))))))))))
def d_law_folded : DefD := ⟨("", "_law_folded"), "_law_folded", "_law_folded", s_law_folded, ["_law_e", "_law_parts", "_law_part", "_law_word", "_law_last_one"], ["_law_e"], b_law_folded⟩
def t_law_folded_10 (call : CallT) : MS := sSeq (sRet (eVar 0)) (sNext)
def t_law_folded_9 (call : CallT) : MS := sSeq (sIf (tAnd (tBl (eOp2 opEq (eVar 3) (eC (.str "clean")))) (tAnd (tTru (eVar 4)) (tNot (tTru (eCall call ("", "_law_has_tell") (eCons (eOp2 opIx (eVar 0) (eC (.int 1))) eNil))))))
  (sSeq (sRet (eOp2 opIx (eVar 0) (eC (.int 2))))
   (sNext))
  (sNext)) (t_law_folded_10 call)
def t_law_folded_8 (call : CallT) : MS := sSeq (sIf (tAnd (tBl (eOp2 opIn (eVar 3) (eTup (eCons (eC (.str "look")) (eCons (eC (.str "way")) (eCons (eC (.str "anew")) eNil)))))) (tTru (eVar 4)))
  (sSeq (sRet (eOp2 opIx (eVar 0) (eOp1 unNeg (eC (.int 1)))))
   (sNext))
  (sNext)) (t_law_folded_9 call)
def t_law_folded_7 (call : CallT) : MS := sSeq (sIf (tAnd (tBl (eOp2 opEq (eVar 3) (eC (.str "let")))) (tAnd (tBl (eOp2 opEq (eOp2 opIx (eOp2 opIx (eVar 0) (eC (.int 3))) (eC (.int 0))) (eC (.str "num")))) (tBl (eOp2 opIn (eOp2 opIx (eOp2 opIx (eVar 0) (eC (.int 2))) (eC (.int 0))) (eTup (eCons (eC (.str "num")) (eCons (eC (.str "name")) eNil)))))))
  (sSeq (sRet (eOp2 opIx (eVar 0) (eC (.int 3))))
   (sNext))
  (sNext)) (t_law_folded_8 call)
def t_law_folded_6 (call : CallT) : MS := sSeq (sAsg (gName 4) (eIf (tTru (eIsTy ["tuple"] (eOp2 opIx (eVar 0) (eOp1 unNeg (eC (.int 1)))))) (eOp2 opIn (eOp2 opIx (eOp2 opIx (eVar 0) (eOp1 unNeg (eC (.int 1)))) (eC (.int 0))) (eTup (eCons (eC (.str "num")) (eCons (eC (.str "name")) eNil)))) (eC (.bl false)))) (t_law_folded_7 call)
def t_law_folded_5 (call : CallT) : MS := sSeq (sIf (tAnd (tBl (eOp2 opEq (eVar 3) (eC (.str "if")))) (tBl (eOp2 opEq (eOp2 opIx (eOp2 opIx (eVar 0) (eC (.int 1))) (eC (.int 0))) (eC (.str "num")))))
  (sSeq (sRet (eOp2 opIx (eLst (eCons (eOp2 opIx (eVar 0) (eC (.int 2))) (eCons (eOp2 opIx (eVar 0) (eC (.int 3))) eNil))) (eFn fInt (eCons (eOp2 opEq (eOp2 opIx (eOp2 opIx (eVar 0) (eC (.int 1))) (eC (.int 1))) (eC (.int 0))) eNil))))
   (sNext))
  (sNext)) (t_law_folded_6 call)
def t_law_folded_4 (call : CallT) : MS := sSeq (sIf (tAnd (tBl (eOp2 opIn (eVar 3) (eTup (eCons (eC (.str "plus")) (eCons (eC (.str "less")) eNil))))) (tBl (eOp2 opEq (eLst (eCons (eOp2 opIx (eOp2 opIx (eVar 0) (eC (.int 1))) (eC (.int 0))) (eCons (eOp2 opIx (eOp2 opIx (eVar 0) (eC (.int 2))) (eC (.int 0))) eNil))) (eLst (eCons (eC (.str "num")) (eCons (eC (.str "num")) eNil))))))
  (sSeq (sRet (eTup (eCons (eC (.str "num")) (eCons (eOp2 opIx (eLst (eCons (eOp2 opAdd (eOp2 opIx (eOp2 opIx (eVar 0) (eC (.int 1))) (eC (.int 1))) (eOp2 opIx (eOp2 opIx (eVar 0) (eC (.int 2))) (eC (.int 1)))) (eCons (eFn fInt (eCons (eOp2 opLt (eOp2 opIx (eOp2 opIx (eVar 0) (eC (.int 1))) (eC (.int 1))) (eOp2 opIx (eOp2 opIx (eVar 0) (eC (.int 2))) (eC (.int 1)))) eNil)) eNil))) (eFn fInt (eCons (eOp2 opEq (eVar 3) (eC (.str "less"))) eNil))) eNil))))
   (sNext))
  (sNext)) (t_law_folded_5 call)
def t_law_folded_3 (call : CallT) : MS := sSeq (sAsg (gName 3) (eOp2 opIx (eVar 0) (eC (.int 0)))) (t_law_folded_4 call)
def t_law_folded_2 (call : CallT) : MS := sSeq (sAsg (gName 0) (eFn fTuple (eCons (eVar 1) eNil))) (t_law_folded_3 call)
def t_law_folded_1 (call : CallT) : MS := sSeq (sFor (iBs (eVar 0)) (gName 2)
  (sSeq (sExpr (eMt isL mAppend (eVar 1) (eCons (eIf (tTru (eIsTy ["tuple"] (eVar 2))) (eCall call ("", "_law_folded") (eCons (eVar 2) eNil)) (eVar 2)) eNil)))
   (sNext))) (t_law_folded_2 call)
def t_law_folded_0 (call : CallT) : MS := sSeq (sAsg (gName 1) (eLst eNil)) (t_law_folded_1 call)
theorem u_law_folded (call : CallT) : b_law_folded call = t_law_folded_0 call := rfl

abbrev s_p_law : Stmt := top 29
def b_p_law (call : CallT) : MS :=
 sSeq (sAsg (gName 1) (eLst (eCons (eCall call ("", "_law_a_program") (eCons (eVar 0) (eCons (eC (.int 0)) eNil))) eNil)))
 (sSeq (sFor (iRng1 (eC (.int 6))) (gName 2)
  (sSeq (sAsg (gName 4) (eCall call ("", "_law_a_tape") (eCons (eVar 0) (eCons (eOp2 opAdd (eC (.int 2)) (eVar 2)) eNil))))
   (sSeq (sAsg (gName 5) (eCall call ("", "_law_a_known") (eCons (eVar 4) (eCons (eOp2 opAdd (eC (.int 2)) (eCall call ("", "_law_pick") (eCons (eVar 4) (eCons (eC (.int 7)) eNil)))) eNil))))
   (sSeq (sIf (tBl (eOp2 opLt (eCall call ("", "_law_count") (eCons (eVar 5) eNil)) (eC (.int 81))))
    (sSeq (sExpr (eMt isL mAppend (eVar 1) (eCons (eTup (eCons (eVar 5) eNil)) eNil)))
     (sNext))
    (sNext))
   (sNext)))))
 (sSeq (sFor (iBs (eVar 1)) (gName 3)
  (sSeq (sAsg (gName 6) (eFn fTuple (eCons (eComp (iBs (eVar 3)) [5] (gName 5) tYes (eCall call ("", "_law_folded") (eCons (eVar 5) eNil))) eNil)))
   (sSeq (sAsg (gName 7) (eCall call ("", "folded") (eCons (eVar 3) eNil)))
   (sSeq (sIf (tOr (tBl (eOp2 opNe (eVar 7) (eVar 6))) (tOr (tNot (tTru (eCall call ("", "_law_is_program") (eCons (eVar 7) eNil)))) (tBl (eOp2 opNe (eCall call ("", "folded") (eCons (eVar 7) eNil)) (eVar 7)))))
    (sSeq (sRet (eC (.bl false)))
     (sNext))
    (sNext))
   (sNext)))))
 (sSeq (sRet (eC (.bl true)))
 (sNext))))
def d_p_law : DefD := ⟨("", "law"), "law", "law", s_p_law, ["_law_script", "_law_programs", "_law_k", "_law_program", "_law_tape", "_law_e", "_law_due", "_law_found"], ["_law_script"], b_p_law⟩
def t_p_law_3 (call : CallT) : MS := sSeq (sRet (eC (.bl true))) (sNext)
def t_p_law_2 (call : CallT) : MS := sSeq (sFor (iBs (eVar 1)) (gName 3)
  (sSeq (sAsg (gName 6) (eFn fTuple (eCons (eComp (iBs (eVar 3)) [5] (gName 5) tYes (eCall call ("", "_law_folded") (eCons (eVar 5) eNil))) eNil)))
   (sSeq (sAsg (gName 7) (eCall call ("", "folded") (eCons (eVar 3) eNil)))
   (sSeq (sIf (tOr (tBl (eOp2 opNe (eVar 7) (eVar 6))) (tOr (tNot (tTru (eCall call ("", "_law_is_program") (eCons (eVar 7) eNil)))) (tBl (eOp2 opNe (eCall call ("", "folded") (eCons (eVar 7) eNil)) (eVar 7)))))
    (sSeq (sRet (eC (.bl false)))
     (sNext))
    (sNext))
   (sNext))))) (t_p_law_3 call)
def t_p_law_1 (call : CallT) : MS := sSeq (sFor (iRng1 (eC (.int 6))) (gName 2)
  (sSeq (sAsg (gName 4) (eCall call ("", "_law_a_tape") (eCons (eVar 0) (eCons (eOp2 opAdd (eC (.int 2)) (eVar 2)) eNil))))
   (sSeq (sAsg (gName 5) (eCall call ("", "_law_a_known") (eCons (eVar 4) (eCons (eOp2 opAdd (eC (.int 2)) (eCall call ("", "_law_pick") (eCons (eVar 4) (eCons (eC (.int 7)) eNil)))) eNil))))
   (sSeq (sIf (tBl (eOp2 opLt (eCall call ("", "_law_count") (eCons (eVar 5) eNil)) (eC (.int 81))))
    (sSeq (sExpr (eMt isL mAppend (eVar 1) (eCons (eTup (eCons (eVar 5) eNil)) eNil)))
     (sNext))
    (sNext))
   (sNext))))) (t_p_law_2 call)
def t_p_law_0 (call : CallT) : MS := sSeq (sAsg (gName 1) (eLst (eCons (eCall call ("", "_law_a_program") (eCons (eVar 0) (eCons (eC (.int 0)) eNil))) eNil))) (t_p_law_1 call)
theorem u_p_law (call : CallT) : b_p_law call = t_p_law_0 call := rfl

def tbl : List DefD := [d_p_within, d_p_reckoned, d_p_is_simple, d_p_has_tell, d_p_fold_one, d_p_fold, d_p_folded, d_law_cell_at, d_law_draws, d_law_a_tape, d_law_pick, d_law_leaf, d_law_a_plain, d_law_grown, d_law_within, d_law_count, d_law_a_program, d_law_whole, d_law_is_name, d_law_is_expression, d_law_operands, d_law_is_program, d_law_a_known, d_law_has_tell, d_law_folded, d_p_law]
theorem ok_p_within : DefOk Gl d_p_within := ⟨⟨rfl, rfl, rfl, by decide +kernel, rfl, by decide +kernel, by decide +kernel⟩, fun call => by kernel_rfl⟩
theorem ok_p_reckoned : DefOk Gl d_p_reckoned := ⟨⟨rfl, rfl, rfl, by decide +kernel, rfl, by decide +kernel, by decide +kernel⟩, fun call => by kernel_rfl⟩
theorem ok_p_is_simple : DefOk Gl d_p_is_simple := ⟨⟨rfl, rfl, rfl, by decide +kernel, rfl, by decide +kernel, by decide +kernel⟩, fun call => by kernel_rfl⟩
theorem ok_p_has_tell : DefOk Gl d_p_has_tell := ⟨⟨rfl, rfl, rfl, by decide +kernel, rfl, by decide +kernel, by decide +kernel⟩, fun call => by kernel_rfl⟩
theorem ok_p_fold_one : DefOk Gl d_p_fold_one := ⟨⟨rfl, rfl, rfl, by decide +kernel, rfl, by decide +kernel, by decide +kernel⟩, fun call => by kernel_rfl⟩
theorem ok_p_fold : DefOk Gl d_p_fold := ⟨⟨rfl, rfl, rfl, by decide +kernel, rfl, by decide +kernel, by decide +kernel⟩, fun call => by kernel_rfl⟩
theorem ok_p_folded : DefOk Gl d_p_folded := ⟨⟨rfl, rfl, rfl, by decide +kernel, rfl, by decide +kernel, by decide +kernel⟩, fun call => by kernel_rfl⟩
theorem ok_law_cell_at : DefOk Gl d_law_cell_at := ⟨⟨rfl, rfl, rfl, by decide +kernel, rfl, by decide +kernel, by decide +kernel⟩, fun call => by kernel_rfl⟩
theorem ok_law_draws : DefOk Gl d_law_draws := ⟨⟨rfl, rfl, rfl, by decide +kernel, rfl, by decide +kernel, by decide +kernel⟩, fun call => by kernel_rfl⟩
theorem ok_law_a_tape : DefOk Gl d_law_a_tape := ⟨⟨rfl, rfl, rfl, by decide +kernel, rfl, by decide +kernel, by decide +kernel⟩, fun call => by kernel_rfl⟩
theorem ok_law_pick : DefOk Gl d_law_pick := ⟨⟨rfl, rfl, rfl, by decide +kernel, rfl, by decide +kernel, by decide +kernel⟩, fun call => by kernel_rfl⟩
theorem ok_law_leaf : DefOk Gl d_law_leaf := ⟨⟨rfl, rfl, rfl, by decide +kernel, rfl, by decide +kernel, by decide +kernel⟩, fun call => by kernel_rfl⟩
theorem ok_law_a_plain : DefOk Gl d_law_a_plain := ⟨⟨rfl, rfl, rfl, by decide +kernel, rfl, by decide +kernel, by decide +kernel⟩, fun call => by kernel_rfl⟩
theorem ok_law_grown : DefOk Gl d_law_grown := ⟨⟨rfl, rfl, rfl, by decide +kernel, rfl, by decide +kernel, by decide +kernel⟩, fun call => by kernel_rfl⟩
theorem ok_law_within : DefOk Gl d_law_within := ⟨⟨rfl, rfl, rfl, by decide +kernel, rfl, by decide +kernel, by decide +kernel⟩, fun call => by kernel_rfl⟩
theorem ok_law_count : DefOk Gl d_law_count := ⟨⟨rfl, rfl, rfl, by decide +kernel, rfl, by decide +kernel, by decide +kernel⟩, fun call => by kernel_rfl⟩
theorem ok_law_a_program : DefOk Gl d_law_a_program := ⟨⟨rfl, rfl, rfl, by decide +kernel, rfl, by decide +kernel, by decide +kernel⟩, fun call => by kernel_rfl⟩
theorem ok_law_whole : DefOk Gl d_law_whole := ⟨⟨rfl, rfl, rfl, by decide +kernel, rfl, by decide +kernel, by decide +kernel⟩, fun call => by kernel_rfl⟩
theorem ok_law_is_name : DefOk Gl d_law_is_name := ⟨⟨rfl, rfl, rfl, by decide +kernel, rfl, by decide +kernel, by decide +kernel⟩, fun call => by kernel_rfl⟩
theorem ok_law_is_expression : DefOk Gl d_law_is_expression := ⟨⟨rfl, rfl, rfl, by decide +kernel, rfl, by decide +kernel, by decide +kernel⟩, fun call => by kernel_rfl⟩
theorem ok_law_operands : DefOk Gl d_law_operands := ⟨⟨rfl, rfl, rfl, by decide +kernel, rfl, by decide +kernel, by decide +kernel⟩, fun call => by kernel_rfl⟩
theorem ok_law_is_program : DefOk Gl d_law_is_program := ⟨⟨rfl, rfl, rfl, by decide +kernel, rfl, by decide +kernel, by decide +kernel⟩, fun call => by kernel_rfl⟩
theorem ok_law_a_known : DefOk Gl d_law_a_known := ⟨⟨rfl, rfl, rfl, by decide +kernel, rfl, by decide +kernel, by decide +kernel⟩, fun call => by kernel_rfl⟩
theorem ok_law_has_tell : DefOk Gl d_law_has_tell := ⟨⟨rfl, rfl, rfl, by decide +kernel, rfl, by decide +kernel, by decide +kernel⟩, fun call => by kernel_rfl⟩
theorem ok_law_folded : DefOk Gl d_law_folded := ⟨⟨rfl, rfl, rfl, by decide +kernel, rfl, by decide +kernel, by decide +kernel⟩, fun call => by kernel_rfl⟩
theorem ok_p_law : DefOk Gl d_p_law := ⟨⟨rfl, rfl, rfl, by decide +kernel, rfl, by decide +kernel, by decide +kernel⟩, fun call => by kernel_rfl⟩
theorem oks : ∀ d ∈ tbl, DefOk Gl d := all_of ⟨ok_p_within, ok_p_reckoned, ok_p_is_simple, ok_p_has_tell, ok_p_fold_one, ok_p_fold, ok_p_folded, ok_law_cell_at, ok_law_draws, ok_law_a_tape, ok_law_pick, ok_law_leaf, ok_law_a_plain, ok_law_grown, ok_law_within, ok_law_count, ok_law_a_program, ok_law_whole, ok_law_is_name, ok_law_is_expression, ok_law_operands, ok_law_is_program, ok_law_a_known, ok_law_has_tell, ok_law_folded, ok_p_law, trivial⟩
abbrev CF : Nat → CallT := callF (tabF tbl)
theorem c_p_within (n : Nat) (a0 : PV) (g : G) : CF (n + 1) ("", "within") [a0] g = runBody (b_p_within (CF n) [some a0, none, none, none] g) := by kernel_rfl
theorem c_p_reckoned (n : Nat) (a0 a1 a2 : PV) (g : G) : CF (n + 1) ("", "reckoned") [a0, a1, a2] g = runBody (b_p_reckoned (CF n) [some a0, some a1, some a2] g) := by kernel_rfl
theorem c_p_is_simple (n : Nat) (a0 : PV) (g : G) : CF (n + 1) ("", "is_simple") [a0] g = runBody (b_p_is_simple (CF n) [some a0] g) := by kernel_rfl
theorem c_p_has_tell (n : Nat) (a0 : PV) (g : G) : CF (n + 1) ("", "has_tell") [a0] g = runBody (b_p_has_tell (CF n) [some a0, none] g) := by kernel_rfl
theorem c_p_fold_one (n : Nat) (a0 : PV) (g : G) : CF (n + 1) ("", "fold_one") [a0] g = runBody (b_p_fold_one (CF n) [some a0, none] g) := by kernel_rfl
theorem c_p_fold (n : Nat) (a0 : PV) (g : G) : CF (n + 1) ("", "fold") [a0] g = runBody (b_p_fold (CF n) [some a0, none, none, none] g) := by kernel_rfl
theorem c_p_folded (n : Nat) (a0 : PV) (g : G) : CF (n + 1) ("", "folded") [a0] g = runBody (b_p_folded (CF n) [some a0, none] g) := by kernel_rfl
theorem c_law_cell_at (n : Nat) (a0 a1 : PV) (g : G) : CF (n + 1) ("", "_law_cell_at") [a0, a1] g = runBody (b_law_cell_at (CF n) [some a0, some a1] g) := by kernel_rfl
theorem c_law_draws (n : Nat) (a0 a1 a2 : PV) (g : G) : CF (n + 1) ("", "_law_draws") [a0, a1, a2] g = runBody (b_law_draws (CF n) [some a0, some a1, some a2, none, none, none, none] g) := by kernel_rfl
theorem c_law_a_tape (n : Nat) (a0 a1 : PV) (g : G) : CF (n + 1) ("", "_law_a_tape") [a0, a1] g = runBody (b_law_a_tape (CF n) [some a0, some a1, none] g) := by kernel_rfl
theorem c_law_pick (n : Nat) (a0 a1 : PV) (g : G) : CF (n + 1) ("", "_law_pick") [a0, a1] g = runBody (b_law_pick (CF n) [some a0, some a1, none] g) := by kernel_rfl
theorem c_law_leaf (n : Nat) (a0 a1 : PV) (g : G) : CF (n + 1) ("", "_law_leaf") [a0, a1] g = runBody (b_law_leaf (CF n) [some a0, some a1, none, none] g) := by kernel_rfl
theorem c_law_a_plain (n : Nat) (a0 a1 a2 : PV) (g : G) : CF (n + 1) ("", "_law_a_plain") [a0, a1, a2] g = runBody (b_law_a_plain (CF n) [some a0, some a1, some a2, none, none, none] g) := by kernel_rfl
theorem c_law_grown (n : Nat) (a0 a1 a2 a3 a4 : PV) (g : G) : CF (n + 1) ("", "_law_grown") [a0, a1, a2, a3, a4] g = runBody (b_law_grown (CF n) [some a0, some a1, some a2, some a3, some a4, none, none, none, none, none, none, none, none, none] g) := by kernel_rfl
theorem c_law_within (n : Nat) (a0 : PV) (g : G) : CF (n + 1) ("", "_law_within") [a0] g = runBody (b_law_within (CF n) [some a0, none] g) := by kernel_rfl
theorem c_law_count (n : Nat) (a0 : PV) (g : G) : CF (n + 1) ("", "_law_count") [a0] g = runBody (b_law_count (CF n) [some a0, none] g) := by kernel_rfl
theorem c_law_a_program (n : Nat) (a0 a1 : PV) (g : G) : CF (n + 1) ("", "_law_a_program") [a0, a1] g = runBody (b_law_a_program (CF n) [some a0, some a1, none, none, none, none, none, none, none] g) := by kernel_rfl
theorem c_law_whole (n : Nat) (a0 : PV) (g : G) : CF (n + 1) ("", "_law_whole") [a0] g = runBody (b_law_whole (CF n) [some a0] g) := by kernel_rfl
theorem c_law_is_name (n : Nat) (a0 : PV) (g : G) : CF (n + 1) ("", "_law_is_name") [a0] g = runBody (b_law_is_name (CF n) [some a0, none] g) := by kernel_rfl
theorem c_law_is_expression (n : Nat) (a0 a1 a2 a3 : PV) (g : G) : CF (n + 1) ("", "_law_is_expression") [a0, a1, a2, a3] g = runBody (b_law_is_expression (CF n) [some a0, some a1, some a2, some a3, none, none, none, none] g) := by kernel_rfl
theorem c_law_operands (n : Nat) (a0 a1 a2 a3 a4 : PV) (g : G) : CF (n + 1) ("", "_law_operands") [a0, a1, a2, a3, a4] g = runBody (b_law_operands (CF n) [some a0, some a1, some a2, some a3, some a4, none, none, none] g) := by kernel_rfl
theorem c_law_is_program (n : Nat) (a0 : PV) (g : G) : CF (n + 1) ("", "_law_is_program") [a0] g = runBody (b_law_is_program (CF n) [some a0, none, none] g) := by kernel_rfl
theorem c_law_a_known (n : Nat) (a0 a1 : PV) (g : G) : CF (n + 1) ("", "_law_a_known") [a0, a1] g = runBody (b_law_a_known (CF n) [some a0, some a1, none, none, none, none, none, none, none] g) := by kernel_rfl
theorem c_law_has_tell (n : Nat) (a0 : PV) (g : G) : CF (n + 1) ("", "_law_has_tell") [a0] g = runBody (b_law_has_tell (CF n) [some a0, none] g) := by kernel_rfl
theorem c_law_folded (n : Nat) (a0 : PV) (g : G) : CF (n + 1) ("", "_law_folded") [a0] g = runBody (b_law_folded (CF n) [some a0, none, none, none, none] g) := by kernel_rfl
theorem c_p_law (n : Nat) (a0 : PV) (g : G) : CF (n + 1) ("", "law") [a0] g = runBody (b_p_law (CF n) [some a0, none, none, none, none, none, none, none] g) := by kernel_rfl
end K19
end

section
set_option maxRecDepth 100000
set_option maxHeartbeats 4000000
/-! the tape -/
namespace K19
open PySem Vm

theorem w_cell_at (n : Nat) {r : Nat} {ns : List Int} {k : Nat} {g : G} {Q : PV → G → Prop} (h : g[r]? = some (.rol (ns.map .int))) (q : ∀ i, Q (.int i) g) : WC (CF (n + 1)) ("", "_law_cell_at") [.ref r, .int k] g Q := by
  refine wc_body (c_law_cell_at n _ _ g) ?_
  simp (decide := true) (implicitDefEqProofs := false) only [b_law_cell_at, Ex.ok_words, NX_RBt, NX_SKe, NX_LKt, Q_ret, Q_expr, Q_set, Q_sub, Q_if, Q_seq, Q_next, Q_ct, Q_bk, Q_retN, LK_nx, LK_ct, LK_bk, LK_rt, W_rng1, gName, SK_nx, SK_rt, SK_bk, SK_ct, RB_nx, RB_rt, W_var0, W_varS, W_c, W_op2, W_op1, W_nil, W_cons, W_fn, W_mt, W_call, W_tup, W_lst, W_dct0, W_pn, W_part, W_sl, W_isTy, W_tru, W_bl, W_and, W_or, W_not, W_eBl, W_if, W_eAnd, W_eOr, W_yes, O_ix_0, O_ix_1, O_ix_2, O_ix_3, O_ix_4, O_eq_ss, O_ne_ss, O_eq_ii, O_ne_ii, O_in_1, O_in_2, O_in_3, O_lt, O_le, O_gt, O_ge, O_add, O_sub, O_neg, O_int, O_intb, O_lent, O_min, O_max, O_tuplet, PV.bl.injEq, PV.int.injEq, PV.str.injEq, exists_eq_left', exists_eq_left, List.set_cons_zero, List.set_cons_succ, List.length_cons, List.length_nil, if_true, if_false, Bool.false_eq_true, decide_true, decide_false, ite_true, ite_false, O_lenl g Q (seq_r g h), O_lenl _ _ (seq_r g h), List.length_map]
  by_cases hk : (k : Int) < (ns.length : Int)
  · simp (implicitDefEqProofs := false) only [hk, decide_true, if_true]
    have hk' : k < ns.length := by omega
    have : L2.atI (ns.map PV.int) (k : Int) = some (.int ns[k]) := atI_ok (by omega) (by simp [hk'])
    simp (implicitDefEqProofs := false) only [O, opIx, h, this, RB_rt]
    exact q _
  · simp (implicitDefEqProofs := false) only [hk, decide_false, if_false, Bool.false_eq_true, SK_nx, Ex.ok_words, NX_RBt, NX_SKe, NX_LKt, Q_ret, Q_expr, Q_set, Q_sub, Q_if, Q_seq, Q_next, Q_ct, Q_bk, Q_retN, LK_nx, LK_ct, LK_bk, LK_rt, W_rng1, gName, SK_nx, SK_rt, SK_bk, SK_ct, RB_nx, RB_rt, W_var0, W_varS, W_c, W_op2, W_op1, W_nil, W_cons, W_fn, W_mt, W_call, W_tup, W_lst, W_dct0, W_pn, W_part, W_sl, W_isTy, W_tru, W_bl, W_and, W_or, W_not, W_eBl, W_if, W_eAnd, W_eOr, W_yes, O_ix_0, O_ix_1, O_ix_2, O_ix_3, O_ix_4, O_eq_ss, O_ne_ss, O_eq_ii, O_ne_ii, O_in_1, O_in_2, O_in_3, O_lt, O_le, O_gt, O_ge, O_add, O_sub, O_neg, O_int, O_intb, O_lent, O_min, O_max, O_tuplet, PV.bl.injEq, PV.int.injEq, PV.str.injEq, exists_eq_left', exists_eq_left, List.set_cons_zero, List.set_cons_succ, List.length_cons, List.length_nil, if_true, if_false, Bool.false_eq_true, decide_true, decide_false, ite_true, ite_false]
    exact q _
theorem small_P {P i j : Int} (hP : P = 2305843009213693951) (h0 : 0 ≤ i) (h1 : i < P) : (small64 i || small64 j) = true := by
  unfold small64
  rw [Bool.or_eq_true, Bool.and_eq_true, decide_eq_true_eq, decide_eq_true_eq]
  exact .inl ⟨by omega, by omega⟩
theorem t_p18 (g : G) (Q : PV → G → Prop) : O (opPow (.int 10) (.int 18) g) Q = Q (.int 1000000000000000000) g := by
  have h : opPow (.int 10) (.int 18) g = some (.int ((10 : Int) ^ (18 : Int).toNat), g) := by
    show (if ((0 : Int) ≤ 18 ∧ (18 : Int) ≤ 1000000) ∧ (10 : Int).natAbs < 2 ^ 64 then some (PV.int ((10 : Int) ^ (18 : Int).toNat), g) else none) = _
    exact if_pos (by decide)
  have e : (10 : Int) ^ (18 : Int).toNat = 1000000000000000000 := by decide
  rw [h, e]
  rfl
def drL (m : Nat) : List PV := (List.range (m + 3)).map fun (i : Nat) => PV.int (0 + (i : Int) * 1)
def DrI (P c B : Int) (m : Nat) (g : G) (src : Src) (i : Nat) (σ : Sl) (g' : G) : Prop := src = Src.rng 0 1 (m + 3) ∧ ∃ (xs : List Int) (rest stir : Int) (k : Option PV), σ = [some (PV.int c), some (PV.int m), some (PV.int B), some (PV.ref g.length), some (PV.int rest), some (PV.int stir), k] ∧
    g' = g ++ [GO.lst (xs.map PV.int)] ∧ xs.length = i - 3 ∧ (∀ x ∈ xs, 0 ≤ x ∧ x < B) ∧ 0 ≤ stir ∧ stir < P
theorem w_draws (n : Nat) {c B : Int} {m : Nat} {g : G} {Q : PV → G → Prop} (hm : m < 1000000) (hB : 0 < B ∧ B < 1073741824) (q : ∀ xs : List Int, xs.length = m → (∀ x ∈ xs, 0 ≤ x ∧ x < B) → Q (.ref g.length) (g ++ [.lst (xs.map .int)])) : WC (CF (n + 1)) ("", "_law_draws") [.int c, .int m, .int B] g Q := by
  refine wc_body (c_law_draws n _ _ _ g) ?_
  obtain ⟨P, hP⟩ : ∃ P : Int, P = 2305843009213693951 := ⟨_, rfl⟩
  have hP0 : 0 < P := by omega
  unfold b_law_draws
  rw [← hP]
  have sm : ∀ b : Bool, (small64 c || small64 (if b = true then 1 else 0)) = true := fun b => by cases b <;> simp [small64]
  simp (decide := true) (implicitDefEqProofs := false) only [Ex.ok_words, NX_RBt, NX_SKe, NX_LKt, Q_ret, Q_expr, Q_set, Q_sub, Q_if, Q_seq, Q_next, Q_ct, Q_bk, Q_retN, LK_nx, LK_ct, LK_bk, LK_rt, W_rng1, gName, SK_nx, SK_rt, SK_bk, SK_ct, RB_nx, RB_rt, W_var0, W_varS, W_c, W_op2, W_op1, W_nil, W_cons, W_fn, W_mt, W_call, W_tup, W_lst, W_dct0, W_pn, W_part, W_sl, W_isTy, W_tru, W_bl, W_and, W_or, W_not, W_eBl, W_if, W_eAnd, W_eOr, W_yes, O_ix_0, O_ix_1, O_ix_2, O_ix_3, O_ix_4, O_eq_ss, O_ne_ss, O_eq_ii, O_ne_ii, O_in_1, O_in_2, O_in_3, O_lt, O_le, O_gt, O_ge, O_add, O_sub, O_neg, O_int, O_intb, O_lent, O_min, O_max, O_tuplet, PV.bl.injEq, PV.int.injEq, PV.str.injEq, exists_eq_left', exists_eq_left, List.set_cons_zero, List.set_cons_succ, List.length_cons, List.length_nil, if_true, if_false, Bool.false_eq_true, decide_true, decide_false, ite_true, ite_false, t_p18, O_mul _ _ _ _ (sm _), O_mod _ _ _ P hP0]
  generalize (c * if decide (1000000000000000000 ≤ c) = true then (1 : Int) else 0) = rest0
  generalize hσ : [some (PV.int c), some (PV.int ↑m), some (PV.int B), some (PV.ref (List.length g)), some (PV.int rest0), some (PV.int (c % P)), none] = σ0
  refine wp_for (L := drL m) (DrI P c B m g) ?_ ?_ ?_ ?_
  · subst hσ
    simp (decide := true) (implicitDefEqProofs := false) only [Ex.ok_words, NX_RBt, NX_SKe, NX_LKt, Q_ret, Q_expr, Q_set, Q_sub, Q_if, Q_seq, Q_next, Q_ct, Q_bk, Q_retN, LK_nx, LK_ct, LK_bk, LK_rt, W_rng1, gName, SK_nx, SK_rt, SK_bk, SK_ct, RB_nx, RB_rt, W_var0, W_varS, W_c, W_op2, W_op1, W_nil, W_cons, W_fn, W_mt, W_call, W_tup, W_lst, W_dct0, W_pn, W_part, W_sl, W_isTy, W_tru, W_bl, W_and, W_or, W_not, W_eBl, W_if, W_eAnd, W_eOr, W_yes, O_ix_0, O_ix_1, O_ix_2, O_ix_3, O_ix_4, O_eq_ss, O_ne_ss, O_eq_ii, O_ne_ii, O_in_1, O_in_2, O_in_3, O_lt, O_le, O_gt, O_ge, O_add, O_sub, O_neg, O_int, O_intb, O_lent, O_min, O_max, O_tuplet, PV.bl.injEq, PV.int.injEq, PV.str.injEq, exists_eq_left', exists_eq_left, List.set_cons_zero, List.set_cons_succ, List.length_cons, List.length_nil, if_true, if_false, Bool.false_eq_true, decide_true, decide_false, ite_true, ite_false]
    refine ⟨by unfold in62; simp; omega, by congr 1, [], _, _, _, rfl, rfl, rfl, by simp, Int.emod_nonneg _ (by omega), Int.emod_lt_of_pos _ hP0⟩
  · rintro src i σ g' ⟨rfl, _⟩
    exact items_rng 0 1 (m + 3) g'
  · rintro src i x σ g' hx ⟨rfl, xs, rest, stir, k, rfl, rfl, hl, hxs, h0, h1⟩
    unfold drL at hx
    have hi : i < m + 3 := by
      have := (List.getElem?_eq_some_iff.mp hx).1
      simpa using this
    obtain rfl : x = .int i := by
      rw [List.getElem?_map, List.getElem?_range hi] at hx
      have := Option.some.inj hx
      rw [← this]
      simp
    refine ⟨_, _, rfl, ?_⟩
    have e1 : ∀ g Q, O (opMul (.int stir) (.int stir) g) Q = Q (.int (stir * stir)) g := fun g Q => O_mul _ _ _ _ (small_P hP h0 h1)
    have e2 : ∀ g Q, O (opMul (.int 48271) (.int stir) g) Q = Q (.int (48271 * stir)) g := fun g Q => O_mul _ _ _ _ (by simp [small64])
    have at_ : (g ++ [GO.lst (xs.map .int)])[g.length]? = some (.lst (xs.map .int)) := by simp
    have big_ : (xs.map PV.int).length < big := by rw [List.length_map, hl]; unfold big; omega
    have e3 : ∀ (v : PV) Q, O (mAppend [.ref g.length, v] (g ++ [.lst (xs.map .int)])) Q = Q .non (g ++ [.lst (xs.map .int ++ [v])]) := fun v Q => by
      rw [O_app _ _ at_ big_]
      simp
    have dB : ∀ (i : Int) g Q, O (opMod (.int i) (.int B) g) Q = Q (.int (i % B)) g := fun i g Q => O_mod _ _ _ _ hB.1
    have dD : ∀ (i : Int) g Q, O (opDiv (.int i) (.int B) g) Q = Q (.int (i / B)) g := fun i g Q => O_div _ _ _ _ hB
    have d4 : ∀ (i : Int) g Q, O (opDiv (.int i) (.int 4096) g) Q = Q (.int (i / 4096)) g := fun i g Q => O_div _ _ _ _ (by decide)
    have dP : ∀ (i : Int) g Q, O (opMod (.int i) (.int P) g) Q = Q (.int (i % P)) g := fun i g Q => O_mod _ _ _ _ hP0
    simp (decide := true) (implicitDefEqProofs := false) only [Ex.ok_words, NX_RBt, NX_SKe, NX_LKt, Q_ret, Q_expr, Q_set, Q_sub, Q_if, Q_seq, Q_next, Q_ct, Q_bk, Q_retN, LK_nx, LK_ct, LK_bk, LK_rt, W_rng1, gName, SK_nx, SK_rt, SK_bk, SK_ct, RB_nx, RB_rt, W_var0, W_varS, W_c, W_op2, W_op1, W_nil, W_cons, W_fn, W_mt, W_call, W_tup, W_lst, W_dct0, W_pn, W_part, W_sl, W_isTy, W_tru, W_bl, W_and, W_or, W_not, W_eBl, W_if, W_eAnd, W_eOr, W_yes, O_ix_0, O_ix_1, O_ix_2, O_ix_3, O_ix_4, O_eq_ss, O_ne_ss, O_eq_ii, O_ne_ii, O_in_1, O_in_2, O_in_3, O_lt, O_le, O_gt, O_ge, O_add, O_sub, O_neg, O_int, O_intb, O_lent, O_min, O_max, O_tuplet, PV.bl.injEq, PV.int.injEq, PV.str.injEq, exists_eq_left', exists_eq_left, List.set_cons_zero, List.set_cons_succ, List.length_cons, List.length_nil, if_true, if_false, Bool.false_eq_true, decide_true, decide_false, ite_true, ite_false, e1, e2, e3, dB, dD, d4, dP, isL_ok _ at_]
    have bnd : ∀ y : Int, 0 ≤ y % B ∧ y % B < B := fun y => ⟨Int.emod_nonneg _ (by omega), Int.emod_lt_of_pos _ hB.1⟩
    have bP : ∀ y : Int, 0 ≤ y % P ∧ y % P < P := fun y => ⟨Int.emod_nonneg _ (by omega), Int.emod_lt_of_pos _ hP0⟩
    by_cases hk : (2 : Int) < (i : Int)
    · by_cases hr : 0 < rest
      · simp (implicitDefEqProofs := false) only [hk, hr, Ex.ok_words, NX_RBt, NX_SKe, NX_LKt, Q_ret, Q_expr, Q_set, Q_sub, Q_if, Q_seq, Q_next, Q_ct, Q_bk, Q_retN, LK_nx, LK_ct, LK_bk, LK_rt, W_rng1, gName, SK_nx, SK_rt, SK_bk, SK_ct, RB_nx, RB_rt, W_var0, W_varS, W_c, W_op2, W_op1, W_nil, W_cons, W_fn, W_mt, W_call, W_tup, W_lst, W_dct0, W_pn, W_part, W_sl, W_isTy, W_tru, W_bl, W_and, W_or, W_not, W_eBl, W_if, W_eAnd, W_eOr, W_yes, O_ix_0, O_ix_1, O_ix_2, O_ix_3, O_ix_4, O_eq_ss, O_ne_ss, O_eq_ii, O_ne_ii, O_in_1, O_in_2, O_in_3, O_lt, O_le, O_gt, O_ge, O_add, O_sub, O_neg, O_int, O_intb, O_lent, O_min, O_max, O_tuplet, PV.bl.injEq, PV.int.injEq, PV.str.injEq, exists_eq_left', exists_eq_left, List.set_cons_zero, List.set_cons_succ, List.length_cons, List.length_nil, if_true, if_false, Bool.false_eq_true, decide_true, decide_false, ite_true, ite_false]
        refine ⟨rfl, xs ++ [rest % B], _, _, _, rfl, by simp, by simp; omega, ?_, (bP _).1, (bP _).2⟩
        intro x hx
        rcases List.mem_append.mp hx with h | h
        · exact hxs _ h
        · rw [List.mem_singleton.mp h]; exact bnd _
      · simp (implicitDefEqProofs := false) only [hk, hr, Ex.ok_words, NX_RBt, NX_SKe, NX_LKt, Q_ret, Q_expr, Q_set, Q_sub, Q_if, Q_seq, Q_next, Q_ct, Q_bk, Q_retN, LK_nx, LK_ct, LK_bk, LK_rt, W_rng1, gName, SK_nx, SK_rt, SK_bk, SK_ct, RB_nx, RB_rt, W_var0, W_varS, W_c, W_op2, W_op1, W_nil, W_cons, W_fn, W_mt, W_call, W_tup, W_lst, W_dct0, W_pn, W_part, W_sl, W_isTy, W_tru, W_bl, W_and, W_or, W_not, W_eBl, W_if, W_eAnd, W_eOr, W_yes, O_ix_0, O_ix_1, O_ix_2, O_ix_3, O_ix_4, O_eq_ss, O_ne_ss, O_eq_ii, O_ne_ii, O_in_1, O_in_2, O_in_3, O_lt, O_le, O_gt, O_ge, O_add, O_sub, O_neg, O_int, O_intb, O_lent, O_min, O_max, O_tuplet, PV.bl.injEq, PV.int.injEq, PV.str.injEq, exists_eq_left', exists_eq_left, List.set_cons_zero, List.set_cons_succ, List.length_cons, List.length_nil, if_true, if_false, Bool.false_eq_true, decide_true, decide_false, ite_true, ite_false]
        refine ⟨rfl, xs ++ [(stir * stir + 48271 * stir + (i : Int) + 1) % P / 4096 % B], _, _, _, rfl, by simp, by simp; omega, ?_, (bP _).1, (bP _).2⟩
        intro x hx
        rcases List.mem_append.mp hx with h | h
        · exact hxs _ h
        · rw [List.mem_singleton.mp h]; exact bnd _
    · simp (implicitDefEqProofs := false) only [hk, Ex.ok_words, NX_RBt, NX_SKe, NX_LKt, Q_ret, Q_expr, Q_set, Q_sub, Q_if, Q_seq, Q_next, Q_ct, Q_bk, Q_retN, LK_nx, LK_ct, LK_bk, LK_rt, W_rng1, gName, SK_nx, SK_rt, SK_bk, SK_ct, RB_nx, RB_rt, W_var0, W_varS, W_c, W_op2, W_op1, W_nil, W_cons, W_fn, W_mt, W_call, W_tup, W_lst, W_dct0, W_pn, W_part, W_sl, W_isTy, W_tru, W_bl, W_and, W_or, W_not, W_eBl, W_if, W_eAnd, W_eOr, W_yes, O_ix_0, O_ix_1, O_ix_2, O_ix_3, O_ix_4, O_eq_ss, O_ne_ss, O_eq_ii, O_ne_ii, O_in_1, O_in_2, O_in_3, O_lt, O_le, O_gt, O_ge, O_add, O_sub, O_neg, O_int, O_intb, O_lent, O_min, O_max, O_tuplet, PV.bl.injEq, PV.int.injEq, PV.str.injEq, exists_eq_left', exists_eq_left, List.set_cons_zero, List.set_cons_succ, List.length_cons, List.length_nil, if_true, if_false, Bool.false_eq_true, decide_true, decide_false, ite_true, ite_false]
      exact ⟨rfl, xs, _, _, _, rfl, rfl, by omega, hxs, (bP _).1, (bP _).2⟩
  · rintro src σ g' ⟨rfl, xs, rest, stir, k, rfl, rfl, hl, hxs, h0, h1⟩
    simp (implicitDefEqProofs := false) only [Ex.ok_words, NX_RBt, NX_SKe, NX_LKt, Q_ret, Q_expr, Q_set, Q_sub, Q_if, Q_seq, Q_next, Q_ct, Q_bk, Q_retN, LK_nx, LK_ct, LK_bk, LK_rt, W_rng1, gName, SK_nx, SK_rt, SK_bk, SK_ct, RB_nx, RB_rt, W_var0, W_varS, W_c, W_op2, W_op1, W_nil, W_cons, W_fn, W_mt, W_call, W_tup, W_lst, W_dct0, W_pn, W_part, W_sl, W_isTy, W_tru, W_bl, W_and, W_or, W_not, W_eBl, W_if, W_eAnd, W_eOr, W_yes, O_ix_0, O_ix_1, O_ix_2, O_ix_3, O_ix_4, O_eq_ss, O_ne_ss, O_eq_ii, O_ne_ii, O_in_1, O_in_2, O_in_3, O_lt, O_le, O_gt, O_ge, O_add, O_sub, O_neg, O_int, O_intb, O_lent, O_min, O_max, O_tuplet, PV.bl.injEq, PV.int.injEq, PV.str.injEq, exists_eq_left', exists_eq_left, List.set_cons_zero, List.set_cons_succ, List.length_cons, List.length_nil, if_true, if_false, Bool.false_eq_true, decide_true, decide_false, ite_true, ite_false]
    exact q xs (by simpa [drL] using hl) hxs
theorem w_a_tape (n : Nat) {r : Nat} {ns : List Int} {k : Nat} {g : G} {Q : PV → G → Prop} (h : g[r]? = some (.rol (ns.map .int))) (q : ∀ xs : List Int, xs.length = 400 → (∀ x ∈ xs, 0 ≤ x ∧ x < 1000000) → Q (.ref (g.length + 1)) (g ++ [.lst (xs.map .int), .lst [.ref g.length, .int 0]])) :
    WC (CF (n + 2)) ("", "_law_a_tape") [.ref r, .int k] g Q := by
  refine wc_body (c_law_a_tape (n + 1) _ _ g) ?_
  simp (decide := true) (implicitDefEqProofs := false) only [b_law_a_tape, Ex.ok_words, NX_RBt, NX_SKe, NX_LKt, Q_ret, Q_expr, Q_set, Q_sub, Q_if, Q_seq, Q_next, Q_ct, Q_bk, Q_retN, LK_nx, LK_ct, LK_bk, LK_rt, W_rng1, gName, SK_nx, SK_rt, SK_bk, SK_ct, RB_nx, RB_rt, W_var0, W_varS, W_c, W_op2, W_op1, W_nil, W_cons, W_fn, W_mt, W_call, W_tup, W_lst, W_dct0, W_pn, W_part, W_sl, W_isTy, W_tru, W_bl, W_and, W_or, W_not, W_eBl, W_if, W_eAnd, W_eOr, W_yes, O_ix_0, O_ix_1, O_ix_2, O_ix_3, O_ix_4, O_eq_ss, O_ne_ss, O_eq_ii, O_ne_ii, O_in_1, O_in_2, O_in_3, O_lt, O_le, O_gt, O_ge, O_add, O_sub, O_neg, O_int, O_intb, O_lent, O_min, O_max, O_tuplet, PV.bl.injEq, PV.int.injEq, PV.str.injEq, exists_eq_left', exists_eq_left, List.set_cons_zero, List.set_cons_succ, List.length_cons, List.length_nil, if_true, if_false, Bool.false_eq_true, decide_true, decide_false, ite_true, ite_false]
  refine w_cell_at n h fun c => ?_
  have p6 : ∀ (g : G) Q, O (opPow (.int 10) (.int 6) g) Q = Q (.int 1000000) g := fun g Q => by
    have h : opPow (.int 10) (.int 6) g = some (.int ((10 : Int) ^ (6 : Int).toNat), g) := by
      show (if ((0 : Int) ≤ 6 ∧ (6 : Int) ≤ 1000000) ∧ (10 : Int).natAbs < 2 ^ 64 then some (PV.int ((10 : Int) ^ (6 : Int).toNat), g) else none) = _
      exact if_pos (by decide)
    have e : (10 : Int) ^ (6 : Int).toNat = 1000000 := by decide
    rw [h, e]
    rfl
  simp (decide := true) (implicitDefEqProofs := false) only [p6, Ex.ok_words, NX_RBt, NX_SKe, NX_LKt, Q_ret, Q_expr, Q_set, Q_sub, Q_if, Q_seq, Q_next, Q_ct, Q_bk, Q_retN, LK_nx, LK_ct, LK_bk, LK_rt, W_rng1, gName, SK_nx, SK_rt, SK_bk, SK_ct, RB_nx, RB_rt, W_var0, W_varS, W_c, W_op2, W_op1, W_nil, W_cons, W_fn, W_mt, W_call, W_tup, W_lst, W_dct0, W_pn, W_part, W_sl, W_isTy, W_tru, W_bl, W_and, W_or, W_not, W_eBl, W_if, W_eAnd, W_eOr, W_yes, O_ix_0, O_ix_1, O_ix_2, O_ix_3, O_ix_4, O_eq_ss, O_ne_ss, O_eq_ii, O_ne_ii, O_in_1, O_in_2, O_in_3, O_lt, O_le, O_gt, O_ge, O_add, O_sub, O_neg, O_int, O_intb, O_lent, O_min, O_max, O_tuplet, PV.bl.injEq, PV.int.injEq, PV.str.injEq, exists_eq_left', exists_eq_left, List.set_cons_zero, List.set_cons_succ, List.length_cons, List.length_nil, if_true, if_false, Bool.false_eq_true, decide_true, decide_false, ite_true, ite_false]
  refine w_draws n (m := 400) (by decide) (by decide) fun xs h1 h2 => ?_
  have := q xs h1 h2
  simpa [big, SK, WS, sRet, W, RB] using this
theorem w_pick (n : Nat) {t k : Nat} {m : Int} {g : G} {Q : PV → G → Prop} (T : TP t k g) (hk : k < 100000000000) (hm : 0 < m) (q : ∀ v g', 0 ≤ v → v < m → TP t (k + 1) g' → Fr [t] g g' → g'.length = g.length → Q (.int v) g') : WC (CF (n + 1)) ("", "_law_pick") [.ref t, .int m] g Q := by
  obtain ⟨d, xs, h1, h2, h3, h4, h5⟩ := T
  refine wc_body (c_law_pick n _ _ g) ?_
  have a0 : ∀ Q, O (opIx (.ref t) (.int 0) g) Q = Q (.ref d) g := fun Q => O_ix_l g Q h1 (atI_ok (by decide) rfl)
  have a1 : ∀ Q, O (opIx (.ref t) (.int 1) g) Q = Q (.int k) g := fun Q => O_ix_l g Q h1 (atI_ok (by decide) rfl)
  have m4 : ∀ Q, O (opMod (.int k) (.int 400) g) Q = Q (.int ((k : Int) % 400)) g := fun Q => O_mod _ _ _ _ (by decide)
  have d4 : ∀ Q, O (opDiv (.int k) (.int 400) g) Q = Q (.int ((k : Int) / 400)) g := fun Q => O_div _ _ _ _ (by decide)
  have hx : ((k : Int) % 400).toNat < xs.length := by omega
  have ax : ∀ Q, O (opIx (.ref d) (.int ((k : Int) % 400)) g) Q = Q (.int xs[((k : Int) % 400).toNat]) g := fun Q => O_ix_l g Q h2 (atI_ok (by omega) (by rw [List.getElem?_map, List.getElem?_eq_getElem hx]; rfl))
  have dd : ∀ (i : Int) Q, O (opDiv (.int i) (.int (1 + (k : Int) / 400)) g) Q = Q (.int (i / (1 + (k : Int) / 400))) g := fun i Q => O_div _ _ _ _ (by omega)
  have mm : ∀ (i : Int) Q, O (opMod (.int i) (.int m) g) Q = Q (.int (i % m)) g := fun i Q => O_mod _ _ _ _ hm
  simp (decide := true) (implicitDefEqProofs := false) only [b_law_pick, Ex.ok_words, NX_RBt, NX_SKe, NX_LKt, Q_ret, Q_expr, Q_set, Q_sub, Q_if, Q_seq, Q_next, Q_ct, Q_bk, Q_retN, LK_nx, LK_ct, LK_bk, LK_rt, W_rng1, gName, SK_nx, SK_rt, SK_bk, SK_ct, RB_nx, RB_rt, W_var0, W_varS, W_c, W_op2, W_op1, W_nil, W_cons, W_fn, W_mt, W_call, W_tup, W_lst, W_dct0, W_pn, W_part, W_sl, W_isTy, W_tru, W_bl, W_and, W_or, W_not, W_eBl, W_if, W_eAnd, W_eOr, W_yes, O_ix_0, O_ix_1, O_ix_2, O_ix_3, O_ix_4, O_eq_ss, O_ne_ss, O_eq_ii, O_ne_ii, O_in_1, O_in_2, O_in_3, O_lt, O_le, O_gt, O_ge, O_add, O_sub, O_neg, O_int, O_intb, O_lent, O_min, O_max, O_tuplet, PV.bl.injEq, PV.int.injEq, PV.str.injEq, exists_eq_left', exists_eq_left, List.set_cons_zero, List.set_cons_succ, List.length_cons, List.length_nil, if_true, if_false, Bool.false_eq_true, decide_true, decide_false, ite_true, ite_false, a0, a1, m4, d4, ax, dd, mm]
  generalize hv : xs[((k : Int) % 400).toNat] / (1 + (k : Int) / 400) % m = v
  have v0 : 0 ≤ v := by rw [← hv]; exact Int.emod_nonneg _ (by omega)
  have v1 : v < m := by rw [← hv]; exact Int.emod_lt_of_pos _ hm
  have st : Vm.gSub (eVar 0) (eC (.int 1)) (.int ((k : Int) + 1)) [some (.ref t), some (.int m), some (.int v)] g = some ([some (.ref t), some (.int m), some (.int v)], g.set t (.lst [.ref d, .int ((k + 1 : Nat) : Int)])) := by
    unfold Vm.gSub eVar eC ME.ret
    simp [setIx, h1, L2.ixN]
  rw [st]
  simp (decide := true) (implicitDefEqProofs := false) only [Ex.ok_words, NX_RBt, NX_SKe, NX_LKt, Q_ret, Q_expr, Q_set, Q_sub, Q_if, Q_seq, Q_next, Q_ct, Q_bk, Q_retN, LK_nx, LK_ct, LK_bk, LK_rt, W_rng1, gName, SK_nx, SK_rt, SK_bk, SK_ct, RB_nx, RB_rt, W_var0, W_varS, W_c, W_op2, W_op1, W_nil, W_cons, W_fn, W_mt, W_call, W_tup, W_lst, W_dct0, W_pn, W_part, W_sl, W_isTy, W_tru, W_bl, W_and, W_or, W_not, W_eBl, W_if, W_eAnd, W_eOr, W_yes, O_ix_0, O_ix_1, O_ix_2, O_ix_3, O_ix_4, O_eq_ss, O_ne_ss, O_eq_ii, O_ne_ii, O_in_1, O_in_2, O_in_3, O_lt, O_le, O_gt, O_ge, O_add, O_sub, O_neg, O_int, O_intb, O_lent, O_min, O_max, O_tuplet, PV.bl.injEq, PV.int.injEq, PV.str.injEq, exists_eq_left', exists_eq_left, List.set_cons_zero, List.set_cons_succ, List.length_cons, List.length_nil, if_true, if_false, Bool.false_eq_true, decide_true, decide_false, ite_true, ite_false]
  have ht := (List.getElem?_eq_some_iff.mp h1).1
  refine q v _ v0 v1 ⟨d, xs, ?_, ?_, h3, h4, h5⟩ (Fr.set _ (by simp)) (by simp)
  · rw [List.getElem?_set_self ht]
  · rw [List.getElem?_set_ne (Ne.symm h5)]; exact h2
end K19
end

section
set_option maxRecDepth 100000
set_option maxHeartbeats 4000000
/-! within, count of the law's own -/
namespace K19
open PySem Vm

theorem isTy_t {x : PV} (h : Ex.okP x = true) (g : G) : isTy "tuple" x g = some (Ex.isT x) := by
  cases x <;> first | rfl | cases h
theorem cut1 (a : PV) (l : List PV) : cutP (a :: l) (some 1) none = l := by
  unfold cutP HT.sIx
  simp
theorem w_within (n : Nat) (e : Ex) {g : G} {Q : PV → G → Prop} (q : ∀ m, Q (.ref g.length) (g ++ .lst (e.parts.map Ex.pv) :: m)) : WC (CF (n + 1)) ("", "_law_within") [e.pv] g Q := by
  refine wc_body (c_law_within n _ g) ?_
  simp (decide := true) (implicitDefEqProofs := false) only [b_law_within, Ex.ok_words, NX_RBt, NX_SKe, NX_LKt, Q_ret, Q_expr, Q_set, Q_sub, Q_if, Q_seq, Q_next, Q_ct, Q_bk, Q_retN, LK_nx, LK_ct, LK_bk, LK_rt, W_rng1, gName, SK_nx, SK_rt, SK_bk, SK_ct, RB_nx, RB_rt, W_var0, W_varS, W_c, W_op2, W_op1, W_nil, W_cons, W_fn, W_mt, W_call, W_tup, W_lst, W_dct0, W_pn, W_part, W_sl, W_isTy, W_tru, W_bl, W_and, W_or, W_not, W_eBl, W_if, W_eAnd, W_eOr, W_yes, O_ix_0, O_ix_1, O_ix_2, O_ix_3, O_ix_4, O_eq_ss, O_ne_ss, O_eq_ii, O_ne_ii, O_in_1, O_in_2, O_in_3, O_lt, O_le, O_gt, O_ge, O_add, O_sub, O_neg, O_int, O_intb, O_lent, O_min, O_max, O_tuplet, PV.bl.injEq, PV.int.injEq, PV.str.injEq, exists_eq_left', exists_eq_left, List.set_cons_zero, List.set_cons_succ, List.length_cons, List.length_nil, if_true, if_false, Bool.false_eq_true, decide_true, decide_false, ite_true, ite_false]
  obtain ⟨m, h⟩ := eComp_pure (it := iBs (eSl (eVar 0) (ePart (eC (.int 1))) ePartN)) (vs := [1]) (tg := gName 1) (t := tTru (eIsTy ["tuple"] (eVar 1))) (e := eVar 1) (σ := [some e.pv, none]) (L := e.ops) (g := g) (g1 := g) Ex.isT id (src := .bs (.tup e.ops))
    (by
      rw [Ex.pv_eq]
      show (match bsOf (.tup (cutP (PV.str e.hd :: e.ops) (some 1) none)) g with
        | some b => some (RE.ok (Src.bs b) g)
        | none => none) = _
      rw [cut1]
      rfl) (items_tup e.ops) (by cases e <;> simp [Ex.ops, big]) fun x g' hx => by
    refine ⟨[some e.pv, some x], [], rfl, ?_, fun _ => ⟨[], by simp [eVar]⟩⟩
    unfold tTru eIsTy eVar
    simp [ME.bind, isTy_t (Ex.ops_ok e x hx), tru]
  refine W_of h ?_
  rw [List.map_id, Ex.ops_parts]
  exact q m
theorem sum_ints (l : List Int) : intsOf (l.map .int) = some l := by
  induction l with
  | nil => rfl
  | cons a r ih => simp [intsOf, ih]
theorem w_count : ∀ (n : Nat) (e : Ex) {g : G} {Q : PV → G → Prop}, e.dep ≤ n → (∀ m, Q (.int e.count) (g ++ m)) → WC (CF (n + 1)) ("", "_law_count") [e.pv] g Q
  | 0, e, g, Q, h, q => by have := e.dep_pos; omega
  | n + 1, e, g, Q, h, q => by
    refine wc_body (c_law_count (n + 1) _ g) ?_
    simp (decide := true) (implicitDefEqProofs := false) only [b_law_count, Ex.ok_words, NX_RBt, NX_SKe, NX_LKt, Q_ret, Q_expr, Q_set, Q_sub, Q_if, Q_seq, Q_next, Q_ct, Q_bk, Q_retN, LK_nx, LK_ct, LK_bk, LK_rt, W_rng1, gName, SK_nx, SK_rt, SK_bk, SK_ct, RB_nx, RB_rt, W_var0, W_varS, W_c, W_op2, W_op1, W_nil, W_cons, W_fn, W_mt, W_call, W_tup, W_lst, W_dct0, W_pn, W_part, W_sl, W_isTy, W_tru, W_bl, W_and, W_or, W_not, W_eBl, W_if, W_eAnd, W_eOr, W_yes, O_ix_0, O_ix_1, O_ix_2, O_ix_3, O_ix_4, O_eq_ss, O_ne_ss, O_eq_ii, O_ne_ii, O_in_1, O_in_2, O_in_3, O_lt, O_le, O_gt, O_ge, O_add, O_sub, O_neg, O_int, O_intb, O_lent, O_min, O_max, O_tuplet, PV.bl.injEq, PV.int.injEq, PV.str.injEq, exists_eq_left', exists_eq_left, List.set_cons_zero, List.set_cons_succ, List.length_cons, List.length_nil, if_true, if_false, Bool.false_eq_true, decide_true, decide_false, ite_true, ite_false]
    refine wp_map (L := e.parts.map Ex.pv) (ys := e.parts.map fun p => .int p.count) (by simp) (by cases e <;> simp [Ex.parts, big]) ?_ ?_
    · simp (decide := true) (implicitDefEqProofs := false) only [W_bs, Ex.ok_words, NX_RBt, NX_SKe, NX_LKt, Q_ret, Q_expr, Q_set, Q_sub, Q_if, Q_seq, Q_next, Q_ct, Q_bk, Q_retN, LK_nx, LK_ct, LK_bk, LK_rt, W_rng1, gName, SK_nx, SK_rt, SK_bk, SK_ct, RB_nx, RB_rt, W_var0, W_varS, W_c, W_op2, W_op1, W_nil, W_cons, W_fn, W_mt, W_call, W_tup, W_lst, W_dct0, W_pn, W_part, W_sl, W_isTy, W_tru, W_bl, W_and, W_or, W_not, W_eBl, W_if, W_eAnd, W_eOr, W_yes, O_ix_0, O_ix_1, O_ix_2, O_ix_3, O_ix_4, O_eq_ss, O_ne_ss, O_eq_ii, O_ne_ii, O_in_1, O_in_2, O_in_3, O_lt, O_le, O_gt, O_ge, O_add, O_sub, O_neg, O_int, O_intb, O_lent, O_min, O_max, O_tuplet, PV.bl.injEq, PV.int.injEq, PV.str.injEq, exists_eq_left', exists_eq_left, List.set_cons_zero, List.set_cons_succ, List.length_cons, List.length_nil, if_true, if_false, Bool.false_eq_true, decide_true, decide_false, ite_true, ite_false]
      refine w_within n e fun m => ?_
      have at_ : (g ++ GO.lst (e.parts.map Ex.pv) :: m)[g.length]? = some (.lst (e.parts.map Ex.pv)) := by simp
      rw [bs_ref at_]
      refine ⟨items_ref at_, fun m2 => ?_⟩
      have at2 : ∀ m3 : G, ((g ++ GO.lst (e.parts.map Ex.pv) :: m) ++ GO.lst (e.parts.map fun p => PV.int p.count) :: m3)[(g ++ GO.lst (e.parts.map Ex.pv) :: m).length]? = some (.lst (e.parts.map fun p => PV.int p.count)) := fun m3 => by simp
      rw [O_sum _ _ (seq_l _ (at2 m2)) (ns := e.parts.map Ex.count) (by rw [← sum_ints, List.map_map]; rfl)]
      simp (decide := true) (implicitDefEqProofs := false) only [Ex.ok_words, NX_RBt, NX_SKe, NX_LKt, Q_ret, Q_expr, Q_set, Q_sub, Q_if, Q_seq, Q_next, Q_ct, Q_bk, Q_retN, LK_nx, LK_ct, LK_bk, LK_rt, W_rng1, gName, SK_nx, SK_rt, SK_bk, SK_ct, RB_nx, RB_rt, W_var0, W_varS, W_c, W_op2, W_op1, W_nil, W_cons, W_fn, W_mt, W_call, W_tup, W_lst, W_dct0, W_pn, W_part, W_sl, W_isTy, W_tru, W_bl, W_and, W_or, W_not, W_eBl, W_if, W_eAnd, W_eOr, W_yes, O_ix_0, O_ix_1, O_ix_2, O_ix_3, O_ix_4, O_eq_ss, O_ne_ss, O_eq_ii, O_ne_ii, O_in_1, O_in_2, O_in_3, O_lt, O_le, O_gt, O_ge, O_add, O_sub, O_neg, O_int, O_intb, O_lent, O_min, O_max, O_tuplet, PV.bl.injEq, PV.int.injEq, PV.str.injEq, exists_eq_left', exists_eq_left, List.set_cons_zero, List.set_cons_succ, List.length_cons, List.length_nil, if_true, if_false, Bool.false_eq_true, decide_true, decide_false, ite_true, ite_false]
      rw [← Ex.count_eq]
      have := q (GO.lst (e.parts.map Ex.pv) :: (m ++ GO.lst (e.parts.map fun p => PV.int p.count) :: m2))
      simpa using this
    · intro j x y g' Q' hx hy hq
      rw [List.getElem?_map] at hx hy
      cases hp : e.parts[j]? with
      | none => rw [hp] at hx; cases hx
      | some p =>
        rw [hp] at hx hy
        cases hx
        cases hy
        have hd := Ex.dep_part (List.mem_of_getElem? hp)
        simp (decide := true) (implicitDefEqProofs := false) only [wipeP, Ex.ok_words, NX_RBt, NX_SKe, NX_LKt, Q_ret, Q_expr, Q_set, Q_sub, Q_if, Q_seq, Q_next, Q_ct, Q_bk, Q_retN, LK_nx, LK_ct, LK_bk, LK_rt, W_rng1, gName, SK_nx, SK_rt, SK_bk, SK_ct, RB_nx, RB_rt, W_var0, W_varS, W_c, W_op2, W_op1, W_nil, W_cons, W_fn, W_mt, W_call, W_tup, W_lst, W_dct0, W_pn, W_part, W_sl, W_isTy, W_tru, W_bl, W_and, W_or, W_not, W_eBl, W_if, W_eAnd, W_eOr, W_yes, O_ix_0, O_ix_1, O_ix_2, O_ix_3, O_ix_4, O_eq_ss, O_ne_ss, O_eq_ii, O_ne_ii, O_in_1, O_in_2, O_in_3, O_lt, O_le, O_gt, O_ge, O_add, O_sub, O_neg, O_int, O_intb, O_lent, O_min, O_max, O_tuplet, PV.bl.injEq, PV.int.injEq, PV.str.injEq, exists_eq_left', exists_eq_left, List.set_cons_zero, List.set_cons_succ, List.length_cons, List.length_nil, if_true, if_false, Bool.false_eq_true, decide_true, decide_false, ite_true, ite_false]
        exact w_count n p (by omega) hq
end K19
end

section
set_option maxRecDepth 100000
set_option maxHeartbeats 4000000
/-! the program's folding -/
namespace K19
open PySem Vm

theorem at_forms (e : Ex) (g : G) (Q : PV → G → Prop) : O (opIx c_FORMS (.str e.hd) g) Q = Q (.str e.form) g := by
  have h : opIx c_FORMS (.str e.hd) g = some (.str e.form, g) := by cases e <;> rfl
  rw [h]
  rfl
theorem w_p_within (n : Nat) (e : Ex) {g : G} {Q : PV → G → Prop} (q : ∀ m, Q (.ref g.length) (g ++ .lst (e.parts.map Ex.pv) :: m)) : WC (CF (n + 1)) ("", "within") [e.pv] g Q := by
  refine wc_body (c_p_within n _ g) ?_
  rw [Ex.pv_eq]
  simp (decide := true) (implicitDefEqProofs := false) only [b_p_within, Ex.ok_words, NX_RBt, NX_SKe, NX_LKt, Q_ret, Q_expr, Q_set, Q_sub, Q_if, Q_seq, Q_next, Q_ct, Q_bk, Q_retN, LK_nx, LK_ct, LK_bk, LK_rt, W_rng1, gName, SK_nx, SK_rt, SK_bk, SK_ct, RB_nx, RB_rt, W_var0, W_varS, W_c, W_op2, W_op1, W_nil, W_cons, W_fn, W_mt, W_call, W_tup, W_lst, W_dct0, W_pn, W_part, W_sl, W_isTy, W_tru, W_bl, W_and, W_or, W_not, W_eBl, W_if, W_eAnd, W_eOr, W_yes, O_ix_0, O_ix_1, O_ix_2, O_ix_3, O_ix_4, O_eq_ss, O_ne_ss, O_eq_ii, O_ne_ii, O_in_1, O_in_2, O_in_3, O_lt, O_le, O_gt, O_ge, O_add, O_sub, O_neg, O_int, O_intb, O_lent, O_min, O_max, O_tuplet, PV.bl.injEq, PV.int.injEq, PV.str.injEq, exists_eq_left', exists_eq_left, List.set_cons_zero, List.set_cons_succ, List.length_cons, List.length_nil, if_true, if_false, Bool.false_eq_true, decide_true, decide_false, ite_true, ite_false, at_forms]
  obtain ⟨m, h⟩ := eComp_pure (it := iZip (eVar 1) (eSl (eVar 0) (ePart (eC (.int 1))) ePartN)) (vs := [2, 3]) (tg := Tgt.sem (.tup [2, 3])) (t := tBl (eOp2 opIn (eVar 2) (eC (.str "ep")))) (e := eVar 3) (σ := [some (.tup (.str e.hd :: e.ops)), some (.str e.form), none, none]) (L := e.zipped) (g := g) (g1 := g) Ex.pick Ex.snd (src := .zip (.str e.form) (.tup e.ops))
    (by
      show (match bsOf (.str e.form) g, bsOf (.tup (cutP (PV.str e.hd :: e.ops) (some 1) none)) g with
        | some p, some q => some (RE.ok (Src.zip p q) g)
        | _, _ => none) = _
      rw [cut1]
      rfl) (fun g => items_zip_st g) (by cases e <;> simp [Ex.zipped, Ex.ops, big] <;> omega) fun x g' hx => by
    obtain ⟨c, b, rfl⟩ := Ex.zipped_two hx
    exact ⟨[some (.tup (.str e.hd :: e.ops)), some (.str e.form), some (.str c), some b], [], rfl, by simp [tBl, eOp2, eVar, eC, ME.bind, ME.ret, liftO, opIn, Ex.pick], fun _ => ⟨[], by simp [eVar, Ex.snd]⟩⟩
  refine W_of h ?_
  rw [Ex.zipped_parts]
  exact q m
theorem w_is_simple (n : Nat) (e : Ex) {g : G} {Q : PV → G → Prop} (q : Q (.bl e.simple) g) : WC (CF (n + 1)) ("", "is_simple") [e.pv] g Q := by
  refine wc_body (c_p_is_simple n _ g) ?_
  rw [Ex.pv_eq]
  simp (decide := true) (implicitDefEqProofs := false) only [b_p_is_simple, Ex.ok_words, NX_RBt, NX_SKe, NX_LKt, Q_ret, Q_expr, Q_set, Q_sub, Q_if, Q_seq, Q_next, Q_ct, Q_bk, Q_retN, LK_nx, LK_ct, LK_bk, LK_rt, W_rng1, gName, SK_nx, SK_rt, SK_bk, SK_ct, RB_nx, RB_rt, W_var0, W_varS, W_c, W_op2, W_op1, W_nil, W_cons, W_fn, W_mt, W_call, W_tup, W_lst, W_dct0, W_pn, W_part, W_sl, W_isTy, W_tru, W_bl, W_and, W_or, W_not, W_eBl, W_if, W_eAnd, W_eOr, W_yes, O_ix_0, O_ix_1, O_ix_2, O_ix_3, O_ix_4, O_eq_ss, O_ne_ss, O_eq_ii, O_ne_ii, O_in_1, O_in_2, O_in_3, O_lt, O_le, O_gt, O_ge, O_add, O_sub, O_neg, O_int, O_intb, O_lent, O_min, O_max, O_tuplet, PV.bl.injEq, PV.int.injEq, PV.str.injEq, exists_eq_left', exists_eq_left, List.set_cons_zero, List.set_cons_succ, List.length_cons, List.length_nil, if_true, if_false, Bool.false_eq_true, decide_true, decide_false, ite_true, ite_false]
  rw [← Ex.simple_eq]
  exact q
theorem bls_ok (l : List Bool) : blsOf (l.map .bl) = some l := by
  induction l with
  | nil => rfl
  | cons a r ih => simp [blsOf, ih]
theorem w_has_tell : ∀ (n : Nat) (e : Ex) {g : G} {Q : PV → G → Prop}, e.dep ≤ n → (∀ m, Q (.bl e.tells) (g ++ m)) → WC (CF (n + 1)) ("", "has_tell") [e.pv] g Q
  | 0, e, g, Q, h, q => by have := e.dep_pos; omega
  | n + 1, e, g, Q, h, q => by
    refine wc_body (c_p_has_tell (n + 1) _ g) ?_
    have e0 := Ex.pv_eq e
    have ix0 : ∀ Q, O (opIx e.pv (.int 0) g) Q = Q (.str e.hd) g := fun Q => by rw [e0]; exact O_ix_0 _ _ _ _
    simp (decide := true) (implicitDefEqProofs := false) only [b_p_has_tell, Ex.ok_words, NX_RBt, NX_SKe, NX_LKt, Q_ret, Q_expr, Q_set, Q_sub, Q_if, Q_seq, Q_next, Q_ct, Q_bk, Q_retN, LK_nx, LK_ct, LK_bk, LK_rt, W_rng1, gName, SK_nx, SK_rt, SK_bk, SK_ct, RB_nx, RB_rt, W_var0, W_varS, W_c, W_op2, W_op1, W_nil, W_cons, W_fn, W_mt, W_call, W_tup, W_lst, W_dct0, W_pn, W_part, W_sl, W_isTy, W_tru, W_bl, W_and, W_or, W_not, W_eBl, W_if, W_eAnd, W_eOr, W_yes, O_ix_0, O_ix_1, O_ix_2, O_ix_3, O_ix_4, O_eq_ss, O_ne_ss, O_eq_ii, O_ne_ii, O_in_1, O_in_2, O_in_3, O_lt, O_le, O_gt, O_ge, O_add, O_sub, O_neg, O_int, O_intb, O_lent, O_min, O_max, O_tuplet, PV.bl.injEq, PV.int.injEq, PV.str.injEq, exists_eq_left', exists_eq_left, List.set_cons_zero, List.set_cons_succ, List.length_cons, List.length_nil, if_true, if_false, Bool.false_eq_true, decide_true, decide_false, ite_true, ite_false, ix0, Ex.hd_ok, tru]
    by_cases ht : e.hd = "tell"
    · simp (decide := true) only [ht]
      have := q []
      rw [Ex.tells_eq, ht] at this
      simpa (decide := true) using this
    · simp (decide := true) only [ht]
      refine wp_map (L := e.parts.map Ex.pv) (ys := e.parts.map fun p => .bl p.tells) (by simp) (by cases e <;> simp [Ex.parts, big]) ?_ ?_
      · simp (decide := true) (implicitDefEqProofs := false) only [W_bs, Ex.ok_words, NX_RBt, NX_SKe, NX_LKt, Q_ret, Q_expr, Q_set, Q_sub, Q_if, Q_seq, Q_next, Q_ct, Q_bk, Q_retN, LK_nx, LK_ct, LK_bk, LK_rt, W_rng1, gName, SK_nx, SK_rt, SK_bk, SK_ct, RB_nx, RB_rt, W_var0, W_varS, W_c, W_op2, W_op1, W_nil, W_cons, W_fn, W_mt, W_call, W_tup, W_lst, W_dct0, W_pn, W_part, W_sl, W_isTy, W_tru, W_bl, W_and, W_or, W_not, W_eBl, W_if, W_eAnd, W_eOr, W_yes, O_ix_0, O_ix_1, O_ix_2, O_ix_3, O_ix_4, O_eq_ss, O_ne_ss, O_eq_ii, O_ne_ii, O_in_1, O_in_2, O_in_3, O_lt, O_le, O_gt, O_ge, O_add, O_sub, O_neg, O_int, O_intb, O_lent, O_min, O_max, O_tuplet, PV.bl.injEq, PV.int.injEq, PV.str.injEq, exists_eq_left', exists_eq_left, List.set_cons_zero, List.set_cons_succ, List.length_cons, List.length_nil, if_true, if_false, Bool.false_eq_true, decide_true, decide_false, ite_true, ite_false]
        refine w_p_within n e fun m => ?_
        have at_ : (g ++ GO.lst (e.parts.map Ex.pv) :: m)[g.length]? = some (.lst (e.parts.map Ex.pv)) := by simp
        rw [bs_ref at_]
        refine ⟨items_ref at_, fun m2 => ?_⟩
        have at2 : ∀ m3 : G, ((g ++ GO.lst (e.parts.map Ex.pv) :: m) ++ GO.lst (e.parts.map fun p => PV.bl p.tells) :: m3)[(g ++ GO.lst (e.parts.map Ex.pv) :: m).length]? = some (.lst (e.parts.map fun p => PV.bl p.tells)) := fun m3 => by simp
        rw [O_any _ _ (seq_l _ (at2 m2)) (bs := e.parts.map Ex.tells) (by rw [← bls_ok, List.map_map]; rfl)]
        have := q (GO.lst (e.parts.map Ex.pv) :: (m ++ GO.lst (e.parts.map fun p => PV.bl p.tells) :: m2))
        rw [Ex.tells_eq, decide_eq_false ht, Bool.false_or] at this
        simpa [RB, SK] using this
      · intro j x y g' Q' hx hy hq
        rw [List.getElem?_map] at hx hy
        cases hp : e.parts[j]? with
        | none => rw [hp] at hx; cases hx
        | some p =>
          rw [hp] at hx hy
          cases hx
          cases hy
          have hd := Ex.dep_part (List.mem_of_getElem? hp)
          simp (decide := true) (implicitDefEqProofs := false) only [wipeP, Ex.ok_words, NX_RBt, NX_SKe, NX_LKt, Q_ret, Q_expr, Q_set, Q_sub, Q_if, Q_seq, Q_next, Q_ct, Q_bk, Q_retN, LK_nx, LK_ct, LK_bk, LK_rt, W_rng1, gName, SK_nx, SK_rt, SK_bk, SK_ct, RB_nx, RB_rt, W_var0, W_varS, W_c, W_op2, W_op1, W_nil, W_cons, W_fn, W_mt, W_call, W_tup, W_lst, W_dct0, W_pn, W_part, W_sl, W_isTy, W_tru, W_bl, W_and, W_or, W_not, W_eBl, W_if, W_eAnd, W_eOr, W_yes, O_ix_0, O_ix_1, O_ix_2, O_ix_3, O_ix_4, O_eq_ss, O_ne_ss, O_eq_ii, O_ne_ii, O_in_1, O_in_2, O_in_3, O_lt, O_le, O_gt, O_ge, O_add, O_sub, O_neg, O_int, O_intb, O_lent, O_min, O_max, O_tuplet, PV.bl.injEq, PV.int.injEq, PV.str.injEq, exists_eq_left', exists_eq_left, List.set_cons_zero, List.set_cons_succ, List.length_cons, List.length_nil, if_true, if_false, Bool.false_eq_true, decide_true, decide_false, ite_true, ite_false]
          exact w_has_tell n p (by omega) hq
theorem O_hd (e : Ex) (g : G) (Q : PV → G → Prop) : O (opIx e.pv (.int 0) g) Q = Q (.str e.hd) g := by rw [Ex.pv_eq]; exact O_ix_0 _ _ _ _
theorem O_val (i : Int) (g : G) (Q : PV → G → Prop) : O (opIx (Ex.pv (.num i)) (.int 1) g) Q = Q (.int i) g := O_ix_1 _ _ _ _ _
theorem O_m1_4 (a b c d : PV) (g : G) (Q : PV → G → Prop) : O (opIx (.tup [a, b, c, d]) (.int (-1)) g) Q = Q d g := by simp [O, opIx, L2.atI, L2.ixN]
theorem O_m1_5 (a b c d e : PV) (g : G) (Q : PV → G → Prop) : O (opIx (.tup [a, b, c, d, e]) (.int (-1)) g) Q = Q e g := by simp [O, opIx, L2.atI, L2.ixN]
theorem w_reck_plus (n : Nat) (i j : Int) {g : G} {Q : PV → G → Prop} (q : Q (.int (i + j)) g) : WC (CF (n + 1)) ("", "reckoned") [.str "plus", .int i, .int j] g Q := by
  refine wc_body (c_p_reckoned n _ _ _ g) ?_
  simp (decide := true) (implicitDefEqProofs := false) only [b_p_reckoned, Ex.ok_words, NX_RBt, NX_SKe, NX_LKt, Q_ret, Q_expr, Q_set, Q_sub, Q_if, Q_seq, Q_next, Q_ct, Q_bk, Q_retN, LK_nx, LK_ct, LK_bk, LK_rt, W_rng1, gName, SK_nx, SK_rt, SK_bk, SK_ct, RB_nx, RB_rt, W_var0, W_varS, W_c, W_op2, W_op1, W_nil, W_cons, W_fn, W_mt, W_call, W_tup, W_lst, W_dct0, W_pn, W_part, W_sl, W_isTy, W_tru, W_bl, W_and, W_or, W_not, W_eBl, W_if, W_eAnd, W_eOr, W_yes, O_ix_0, O_ix_1, O_ix_2, O_ix_3, O_ix_4, O_eq_ss, O_ne_ss, O_eq_ii, O_ne_ii, O_in_1, O_in_2, O_in_3, O_lt, O_le, O_gt, O_ge, O_add, O_sub, O_neg, O_int, O_intb, O_lent, O_min, O_max, O_tuplet, PV.bl.injEq, PV.int.injEq, PV.str.injEq, exists_eq_left', exists_eq_left, List.set_cons_zero, List.set_cons_succ, List.length_cons, List.length_nil, if_true, if_false, Bool.false_eq_true, decide_true, decide_false, ite_true, ite_false]
  exact q
theorem w_reck_less (n : Nat) (i j : Int) {g : G} {Q : PV → G → Prop} (q : Q (.int (if i < j then 1 else 0)) g) : WC (CF (n + 1)) ("", "reckoned") [.str "less", .int i, .int j] g Q := by
  refine wc_body (c_p_reckoned n _ _ _ g) ?_
  simp (decide := true) (implicitDefEqProofs := false) only [b_p_reckoned, Ex.ok_words, NX_RBt, NX_SKe, NX_LKt, Q_ret, Q_expr, Q_set, Q_sub, Q_if, Q_seq, Q_next, Q_ct, Q_bk, Q_retN, LK_nx, LK_ct, LK_bk, LK_rt, W_rng1, gName, SK_nx, SK_rt, SK_bk, SK_ct, RB_nx, RB_rt, W_var0, W_varS, W_c, W_op2, W_op1, W_nil, W_cons, W_fn, W_mt, W_call, W_tup, W_lst, W_dct0, W_pn, W_part, W_sl, W_isTy, W_tru, W_bl, W_and, W_or, W_not, W_eBl, W_if, W_eAnd, W_eOr, W_yes, O_ix_0, O_ix_1, O_ix_2, O_ix_3, O_ix_4, O_eq_ss, O_ne_ss, O_eq_ii, O_ne_ii, O_in_1, O_in_2, O_in_3, O_lt, O_le, O_gt, O_ge, O_add, O_sub, O_neg, O_int, O_intb, O_lent, O_min, O_max, O_tuplet, PV.bl.injEq, PV.int.injEq, PV.str.injEq, exists_eq_left', exists_eq_left, List.set_cons_zero, List.set_cons_succ, List.length_cons, List.length_nil, if_true, if_false, Bool.false_eq_true, decide_true, decide_false, ite_true, ite_false]
  by_cases h : i < j <;> simp only [h, if_true, if_false, decide_true, decide_false, Bool.false_eq_true] at q ⊢ <;> exact q
theorem w_fold_one (n : Nat) (e : Ex) {g : G} {Q : PV → G → Prop} (hn : e.dep ≤ n) (q : ∀ m, Q e.fold1.pv (g ++ m)) : WC (CF (n + 2)) ("", "fold_one") [e.pv] g Q := by
  refine wc_body (c_p_fold_one (n + 1) _ g) ?_
  have q0 := q []
  rw [List.append_nil] at q0
  cases e with
  | plus a b =>
    simp (decide := true) (implicitDefEqProofs := false) only [b_p_fold_one, Ex.pv, Ex.ok_words, NX_RBt, NX_SKe, NX_LKt, Q_ret, Q_expr, Q_set, Q_sub, Q_if, Q_seq, Q_next, Q_ct, Q_bk, Q_retN, LK_nx, LK_ct, LK_bk, LK_rt, W_rng1, gName, SK_nx, SK_rt, SK_bk, SK_ct, RB_nx, RB_rt, W_var0, W_varS, W_c, W_op2, W_op1, W_nil, W_cons, W_fn, W_mt, W_call, W_tup, W_lst, W_dct0, W_pn, W_part, W_sl, W_isTy, W_tru, W_bl, W_and, W_or, W_not, W_eBl, W_if, W_eAnd, W_eOr, W_yes, O_ix_0, O_ix_1, O_ix_2, O_ix_3, O_ix_4, O_eq_ss, O_ne_ss, O_eq_ii, O_ne_ii, O_in_1, O_in_2, O_in_3, O_lt, O_le, O_gt, O_ge, O_add, O_sub, O_neg, O_int, O_intb, O_lent, O_min, O_max, O_tuplet, PV.bl.injEq, PV.int.injEq, PV.str.injEq, exists_eq_left', exists_eq_left, List.set_cons_zero, List.set_cons_succ, List.length_cons, List.length_nil, if_true, if_false, Bool.false_eq_true, decide_true, decide_false, ite_true, ite_false, O_hd, Ex.hd_ok]
    by_cases ha : a.hd = "num"
    · by_cases hb : b.hd = "num"
      · obtain ⟨i, rfl⟩ := Ex.hd_num ha
        obtain ⟨j, rfl⟩ := Ex.hd_num hb
        simp (decide := true) (implicitDefEqProofs := false) only [Ex.hd, Ex.ok_words, NX_RBt, NX_SKe, NX_LKt, Q_ret, Q_expr, Q_set, Q_sub, Q_if, Q_seq, Q_next, Q_ct, Q_bk, Q_retN, LK_nx, LK_ct, LK_bk, LK_rt, W_rng1, gName, SK_nx, SK_rt, SK_bk, SK_ct, RB_nx, RB_rt, W_var0, W_varS, W_c, W_op2, W_op1, W_nil, W_cons, W_fn, W_mt, W_call, W_tup, W_lst, W_dct0, W_pn, W_part, W_sl, W_isTy, W_tru, W_bl, W_and, W_or, W_not, W_eBl, W_if, W_eAnd, W_eOr, W_yes, O_ix_0, O_ix_1, O_ix_2, O_ix_3, O_ix_4, O_eq_ss, O_ne_ss, O_eq_ii, O_ne_ii, O_in_1, O_in_2, O_in_3, O_lt, O_le, O_gt, O_ge, O_add, O_sub, O_neg, O_int, O_intb, O_lent, O_min, O_max, O_tuplet, PV.bl.injEq, PV.int.injEq, PV.str.injEq, exists_eq_left', exists_eq_left, List.set_cons_zero, List.set_cons_succ, List.length_cons, List.length_nil, if_true, if_false, Bool.false_eq_true, decide_true, decide_false, ite_true, ite_false, O_val]
        refine w_reck_plus n i j ?_
        first | exact q0 | simpa [SK, RB, big, Ex.fold1, Ex.val, Ex.pv] using q0
      · rw [Ex.fold1, Ex.val_none hb] at q0
        simp (decide := true) (implicitDefEqProofs := false) only [ha, hb, Ex.ok_words, NX_RBt, NX_SKe, NX_LKt, Q_ret, Q_expr, Q_set, Q_sub, Q_if, Q_seq, Q_next, Q_ct, Q_bk, Q_retN, LK_nx, LK_ct, LK_bk, LK_rt, W_rng1, gName, SK_nx, SK_rt, SK_bk, SK_ct, RB_nx, RB_rt, W_var0, W_varS, W_c, W_op2, W_op1, W_nil, W_cons, W_fn, W_mt, W_call, W_tup, W_lst, W_dct0, W_pn, W_part, W_sl, W_isTy, W_tru, W_bl, W_and, W_or, W_not, W_eBl, W_if, W_eAnd, W_eOr, W_yes, O_ix_0, O_ix_1, O_ix_2, O_ix_3, O_ix_4, O_eq_ss, O_ne_ss, O_eq_ii, O_ne_ii, O_in_1, O_in_2, O_in_3, O_lt, O_le, O_gt, O_ge, O_add, O_sub, O_neg, O_int, O_intb, O_lent, O_min, O_max, O_tuplet, PV.bl.injEq, PV.int.injEq, PV.str.injEq, exists_eq_left', exists_eq_left, List.set_cons_zero, List.set_cons_succ, List.length_cons, List.length_nil, if_true, if_false, Bool.false_eq_true, decide_true, decide_false, ite_true, ite_false]
        cases hv : a.val <;> rw [hv] at q0 <;> exact q0
    · rw [Ex.fold1, Ex.val_none ha] at q0
      simp (decide := true) (implicitDefEqProofs := false) only [ha, Ex.ok_words, NX_RBt, NX_SKe, NX_LKt, Q_ret, Q_expr, Q_set, Q_sub, Q_if, Q_seq, Q_next, Q_ct, Q_bk, Q_retN, LK_nx, LK_ct, LK_bk, LK_rt, W_rng1, gName, SK_nx, SK_rt, SK_bk, SK_ct, RB_nx, RB_rt, W_var0, W_varS, W_c, W_op2, W_op1, W_nil, W_cons, W_fn, W_mt, W_call, W_tup, W_lst, W_dct0, W_pn, W_part, W_sl, W_isTy, W_tru, W_bl, W_and, W_or, W_not, W_eBl, W_if, W_eAnd, W_eOr, W_yes, O_ix_0, O_ix_1, O_ix_2, O_ix_3, O_ix_4, O_eq_ss, O_ne_ss, O_eq_ii, O_ne_ii, O_in_1, O_in_2, O_in_3, O_lt, O_le, O_gt, O_ge, O_add, O_sub, O_neg, O_int, O_intb, O_lent, O_min, O_max, O_tuplet, PV.bl.injEq, PV.int.injEq, PV.str.injEq, exists_eq_left', exists_eq_left, List.set_cons_zero, List.set_cons_succ, List.length_cons, List.length_nil, if_true, if_false, Bool.false_eq_true, decide_true, decide_false, ite_true, ite_false]
      exact q0
  | less a b =>
    simp (decide := true) (implicitDefEqProofs := false) only [b_p_fold_one, Ex.pv, Ex.ok_words, NX_RBt, NX_SKe, NX_LKt, Q_ret, Q_expr, Q_set, Q_sub, Q_if, Q_seq, Q_next, Q_ct, Q_bk, Q_retN, LK_nx, LK_ct, LK_bk, LK_rt, W_rng1, gName, SK_nx, SK_rt, SK_bk, SK_ct, RB_nx, RB_rt, W_var0, W_varS, W_c, W_op2, W_op1, W_nil, W_cons, W_fn, W_mt, W_call, W_tup, W_lst, W_dct0, W_pn, W_part, W_sl, W_isTy, W_tru, W_bl, W_and, W_or, W_not, W_eBl, W_if, W_eAnd, W_eOr, W_yes, O_ix_0, O_ix_1, O_ix_2, O_ix_3, O_ix_4, O_eq_ss, O_ne_ss, O_eq_ii, O_ne_ii, O_in_1, O_in_2, O_in_3, O_lt, O_le, O_gt, O_ge, O_add, O_sub, O_neg, O_int, O_intb, O_lent, O_min, O_max, O_tuplet, PV.bl.injEq, PV.int.injEq, PV.str.injEq, exists_eq_left', exists_eq_left, List.set_cons_zero, List.set_cons_succ, List.length_cons, List.length_nil, if_true, if_false, Bool.false_eq_true, decide_true, decide_false, ite_true, ite_false, O_hd, Ex.hd_ok]
    by_cases ha : a.hd = "num"
    · by_cases hb : b.hd = "num"
      · obtain ⟨i, rfl⟩ := Ex.hd_num ha
        obtain ⟨j, rfl⟩ := Ex.hd_num hb
        simp (decide := true) (implicitDefEqProofs := false) only [Ex.hd, Ex.ok_words, NX_RBt, NX_SKe, NX_LKt, Q_ret, Q_expr, Q_set, Q_sub, Q_if, Q_seq, Q_next, Q_ct, Q_bk, Q_retN, LK_nx, LK_ct, LK_bk, LK_rt, W_rng1, gName, SK_nx, SK_rt, SK_bk, SK_ct, RB_nx, RB_rt, W_var0, W_varS, W_c, W_op2, W_op1, W_nil, W_cons, W_fn, W_mt, W_call, W_tup, W_lst, W_dct0, W_pn, W_part, W_sl, W_isTy, W_tru, W_bl, W_and, W_or, W_not, W_eBl, W_if, W_eAnd, W_eOr, W_yes, O_ix_0, O_ix_1, O_ix_2, O_ix_3, O_ix_4, O_eq_ss, O_ne_ss, O_eq_ii, O_ne_ii, O_in_1, O_in_2, O_in_3, O_lt, O_le, O_gt, O_ge, O_add, O_sub, O_neg, O_int, O_intb, O_lent, O_min, O_max, O_tuplet, PV.bl.injEq, PV.int.injEq, PV.str.injEq, exists_eq_left', exists_eq_left, List.set_cons_zero, List.set_cons_succ, List.length_cons, List.length_nil, if_true, if_false, Bool.false_eq_true, decide_true, decide_false, ite_true, ite_false, O_val]
        refine w_reck_less n i j ?_
        first | exact q0 | simpa [SK, RB, big, Ex.fold1, Ex.val, Ex.pv] using q0
      · rw [Ex.fold1, Ex.val_none hb] at q0
        simp (decide := true) (implicitDefEqProofs := false) only [ha, hb, Ex.ok_words, NX_RBt, NX_SKe, NX_LKt, Q_ret, Q_expr, Q_set, Q_sub, Q_if, Q_seq, Q_next, Q_ct, Q_bk, Q_retN, LK_nx, LK_ct, LK_bk, LK_rt, W_rng1, gName, SK_nx, SK_rt, SK_bk, SK_ct, RB_nx, RB_rt, W_var0, W_varS, W_c, W_op2, W_op1, W_nil, W_cons, W_fn, W_mt, W_call, W_tup, W_lst, W_dct0, W_pn, W_part, W_sl, W_isTy, W_tru, W_bl, W_and, W_or, W_not, W_eBl, W_if, W_eAnd, W_eOr, W_yes, O_ix_0, O_ix_1, O_ix_2, O_ix_3, O_ix_4, O_eq_ss, O_ne_ss, O_eq_ii, O_ne_ii, O_in_1, O_in_2, O_in_3, O_lt, O_le, O_gt, O_ge, O_add, O_sub, O_neg, O_int, O_intb, O_lent, O_min, O_max, O_tuplet, PV.bl.injEq, PV.int.injEq, PV.str.injEq, exists_eq_left', exists_eq_left, List.set_cons_zero, List.set_cons_succ, List.length_cons, List.length_nil, if_true, if_false, Bool.false_eq_true, decide_true, decide_false, ite_true, ite_false]
        cases hv : a.val <;> rw [hv] at q0 <;> exact q0
    · rw [Ex.fold1, Ex.val_none ha] at q0
      simp (decide := true) (implicitDefEqProofs := false) only [ha, Ex.ok_words, NX_RBt, NX_SKe, NX_LKt, Q_ret, Q_expr, Q_set, Q_sub, Q_if, Q_seq, Q_next, Q_ct, Q_bk, Q_retN, LK_nx, LK_ct, LK_bk, LK_rt, W_rng1, gName, SK_nx, SK_rt, SK_bk, SK_ct, RB_nx, RB_rt, W_var0, W_varS, W_c, W_op2, W_op1, W_nil, W_cons, W_fn, W_mt, W_call, W_tup, W_lst, W_dct0, W_pn, W_part, W_sl, W_isTy, W_tru, W_bl, W_and, W_or, W_not, W_eBl, W_if, W_eAnd, W_eOr, W_yes, O_ix_0, O_ix_1, O_ix_2, O_ix_3, O_ix_4, O_eq_ss, O_ne_ss, O_eq_ii, O_ne_ii, O_in_1, O_in_2, O_in_3, O_lt, O_le, O_gt, O_ge, O_add, O_sub, O_neg, O_int, O_intb, O_lent, O_min, O_max, O_tuplet, PV.bl.injEq, PV.int.injEq, PV.str.injEq, exists_eq_left', exists_eq_left, List.set_cons_zero, List.set_cons_succ, List.length_cons, List.length_nil, if_true, if_false, Bool.false_eq_true, decide_true, decide_false, ite_true, ite_false]
      exact q0
  | cond a b c =>
    simp (decide := true) (implicitDefEqProofs := false) only [b_p_fold_one, Ex.pv, Ex.ok_words, NX_RBt, NX_SKe, NX_LKt, Q_ret, Q_expr, Q_set, Q_sub, Q_if, Q_seq, Q_next, Q_ct, Q_bk, Q_retN, LK_nx, LK_ct, LK_bk, LK_rt, W_rng1, gName, SK_nx, SK_rt, SK_bk, SK_ct, RB_nx, RB_rt, W_var0, W_varS, W_c, W_op2, W_op1, W_nil, W_cons, W_fn, W_mt, W_call, W_tup, W_lst, W_dct0, W_pn, W_part, W_sl, W_isTy, W_tru, W_bl, W_and, W_or, W_not, W_eBl, W_if, W_eAnd, W_eOr, W_yes, O_ix_0, O_ix_1, O_ix_2, O_ix_3, O_ix_4, O_eq_ss, O_ne_ss, O_eq_ii, O_ne_ii, O_in_1, O_in_2, O_in_3, O_lt, O_le, O_gt, O_ge, O_add, O_sub, O_neg, O_int, O_intb, O_lent, O_min, O_max, O_tuplet, PV.bl.injEq, PV.int.injEq, PV.str.injEq, exists_eq_left', exists_eq_left, List.set_cons_zero, List.set_cons_succ, List.length_cons, List.length_nil, if_true, if_false, Bool.false_eq_true, decide_true, decide_false, ite_true, ite_false, O_hd, Ex.hd_ok]
    by_cases ha : a.hd = "num"
    · obtain ⟨i, rfl⟩ := Ex.hd_num ha
      simp (decide := true) (implicitDefEqProofs := false) only [Ex.hd, Ex.ok_words, NX_RBt, NX_SKe, NX_LKt, Q_ret, Q_expr, Q_set, Q_sub, Q_if, Q_seq, Q_next, Q_ct, Q_bk, Q_retN, LK_nx, LK_ct, LK_bk, LK_rt, W_rng1, gName, SK_nx, SK_rt, SK_bk, SK_ct, RB_nx, RB_rt, W_var0, W_varS, W_c, W_op2, W_op1, W_nil, W_cons, W_fn, W_mt, W_call, W_tup, W_lst, W_dct0, W_pn, W_part, W_sl, W_isTy, W_tru, W_bl, W_and, W_or, W_not, W_eBl, W_if, W_eAnd, W_eOr, W_yes, O_ix_0, O_ix_1, O_ix_2, O_ix_3, O_ix_4, O_eq_ss, O_ne_ss, O_eq_ii, O_ne_ii, O_in_1, O_in_2, O_in_3, O_lt, O_le, O_gt, O_ge, O_add, O_sub, O_neg, O_int, O_intb, O_lent, O_min, O_max, O_tuplet, PV.bl.injEq, PV.int.injEq, PV.str.injEq, exists_eq_left', exists_eq_left, List.set_cons_zero, List.set_cons_succ, List.length_cons, List.length_nil, if_true, if_false, Bool.false_eq_true, decide_true, decide_false, ite_true, ite_false, O_val]
      by_cases hi : i = 0
      · subst hi
        simp (decide := true) (implicitDefEqProofs := false) only [Ex.ok_words, NX_RBt, NX_SKe, NX_LKt, Q_ret, Q_expr, Q_set, Q_sub, Q_if, Q_seq, Q_next, Q_ct, Q_bk, Q_retN, LK_nx, LK_ct, LK_bk, LK_rt, W_rng1, gName, SK_nx, SK_rt, SK_bk, SK_ct, RB_nx, RB_rt, W_var0, W_varS, W_c, W_op2, W_op1, W_nil, W_cons, W_fn, W_mt, W_call, W_tup, W_lst, W_dct0, W_pn, W_part, W_sl, W_isTy, W_tru, W_bl, W_and, W_or, W_not, W_eBl, W_if, W_eAnd, W_eOr, W_yes, O_ix_0, O_ix_1, O_ix_2, O_ix_3, O_ix_4, O_eq_ss, O_ne_ss, O_eq_ii, O_ne_ii, O_in_1, O_in_2, O_in_3, O_lt, O_le, O_gt, O_ge, O_add, O_sub, O_neg, O_int, O_intb, O_lent, O_min, O_max, O_tuplet, PV.bl.injEq, PV.int.injEq, PV.str.injEq, exists_eq_left', exists_eq_left, List.set_cons_zero, List.set_cons_succ, List.length_cons, List.length_nil, if_true, if_false, Bool.false_eq_true, decide_true, decide_false, ite_true, ite_false]
        exact q0
      · simp (decide := true) (implicitDefEqProofs := false) only [hi, Ex.ok_words, NX_RBt, NX_SKe, NX_LKt, Q_ret, Q_expr, Q_set, Q_sub, Q_if, Q_seq, Q_next, Q_ct, Q_bk, Q_retN, LK_nx, LK_ct, LK_bk, LK_rt, W_rng1, gName, SK_nx, SK_rt, SK_bk, SK_ct, RB_nx, RB_rt, W_var0, W_varS, W_c, W_op2, W_op1, W_nil, W_cons, W_fn, W_mt, W_call, W_tup, W_lst, W_dct0, W_pn, W_part, W_sl, W_isTy, W_tru, W_bl, W_and, W_or, W_not, W_eBl, W_if, W_eAnd, W_eOr, W_yes, O_ix_0, O_ix_1, O_ix_2, O_ix_3, O_ix_4, O_eq_ss, O_ne_ss, O_eq_ii, O_ne_ii, O_in_1, O_in_2, O_in_3, O_lt, O_le, O_gt, O_ge, O_add, O_sub, O_neg, O_int, O_intb, O_lent, O_min, O_max, O_tuplet, PV.bl.injEq, PV.int.injEq, PV.str.injEq, exists_eq_left', exists_eq_left, List.set_cons_zero, List.set_cons_succ, List.length_cons, List.length_nil, if_true, if_false, Bool.false_eq_true, decide_true, decide_false, ite_true, ite_false]
        rw [Ex.fold1] at q0
        simpa [Ex.val, hi, O, opIx, L2.atI, L2.ixN, RB, SK] using q0
    · rw [Ex.fold1, Ex.val_none ha] at q0
      simp (decide := true) (implicitDefEqProofs := false) only [ha, Ex.ok_words, NX_RBt, NX_SKe, NX_LKt, Q_ret, Q_expr, Q_set, Q_sub, Q_if, Q_seq, Q_next, Q_ct, Q_bk, Q_retN, LK_nx, LK_ct, LK_bk, LK_rt, W_rng1, gName, SK_nx, SK_rt, SK_bk, SK_ct, RB_nx, RB_rt, W_var0, W_varS, W_c, W_op2, W_op1, W_nil, W_cons, W_fn, W_mt, W_call, W_tup, W_lst, W_dct0, W_pn, W_part, W_sl, W_isTy, W_tru, W_bl, W_and, W_or, W_not, W_eBl, W_if, W_eAnd, W_eOr, W_yes, O_ix_0, O_ix_1, O_ix_2, O_ix_3, O_ix_4, O_eq_ss, O_ne_ss, O_eq_ii, O_ne_ii, O_in_1, O_in_2, O_in_3, O_lt, O_le, O_gt, O_ge, O_add, O_sub, O_neg, O_int, O_intb, O_lent, O_min, O_max, O_tuplet, PV.bl.injEq, PV.int.injEq, PV.str.injEq, exists_eq_left', exists_eq_left, List.set_cons_zero, List.set_cons_succ, List.length_cons, List.length_nil, if_true, if_false, Bool.false_eq_true, decide_true, decide_false, ite_true, ite_false]
      exact q0
  | lett x a b =>
    simp (decide := true) (implicitDefEqProofs := false) only [b_p_fold_one, Ex.pv, Ex.ok_words, NX_RBt, NX_SKe, NX_LKt, Q_ret, Q_expr, Q_set, Q_sub, Q_if, Q_seq, Q_next, Q_ct, Q_bk, Q_retN, LK_nx, LK_ct, LK_bk, LK_rt, W_rng1, gName, SK_nx, SK_rt, SK_bk, SK_ct, RB_nx, RB_rt, W_var0, W_varS, W_c, W_op2, W_op1, W_nil, W_cons, W_fn, W_mt, W_call, W_tup, W_lst, W_dct0, W_pn, W_part, W_sl, W_isTy, W_tru, W_bl, W_and, W_or, W_not, W_eBl, W_if, W_eAnd, W_eOr, W_yes, O_ix_0, O_ix_1, O_ix_2, O_ix_3, O_ix_4, O_eq_ss, O_ne_ss, O_eq_ii, O_ne_ii, O_in_1, O_in_2, O_in_3, O_lt, O_le, O_gt, O_ge, O_add, O_sub, O_neg, O_int, O_intb, O_lent, O_min, O_max, O_tuplet, PV.bl.injEq, PV.int.injEq, PV.str.injEq, exists_eq_left', exists_eq_left, List.set_cons_zero, List.set_cons_succ, List.length_cons, List.length_nil, if_true, if_false, Bool.false_eq_true, decide_true, decide_false, ite_true, ite_false, O_hd, Ex.hd_ok]
    refine w_is_simple n a ?_
    simp (decide := true) (implicitDefEqProofs := false) only [tru, Ex.ok_words, NX_RBt, NX_SKe, NX_LKt, Q_ret, Q_expr, Q_set, Q_sub, Q_if, Q_seq, Q_next, Q_ct, Q_bk, Q_retN, LK_nx, LK_ct, LK_bk, LK_rt, W_rng1, gName, SK_nx, SK_rt, SK_bk, SK_ct, RB_nx, RB_rt, W_var0, W_varS, W_c, W_op2, W_op1, W_nil, W_cons, W_fn, W_mt, W_call, W_tup, W_lst, W_dct0, W_pn, W_part, W_sl, W_isTy, W_tru, W_bl, W_and, W_or, W_not, W_eBl, W_if, W_eAnd, W_eOr, W_yes, O_ix_0, O_ix_1, O_ix_2, O_ix_3, O_ix_4, O_eq_ss, O_ne_ss, O_eq_ii, O_ne_ii, O_in_1, O_in_2, O_in_3, O_lt, O_le, O_gt, O_ge, O_add, O_sub, O_neg, O_int, O_intb, O_lent, O_min, O_max, O_tuplet, PV.bl.injEq, PV.int.injEq, PV.str.injEq, exists_eq_left', exists_eq_left, List.set_cons_zero, List.set_cons_succ, List.length_cons, List.length_nil, if_true, if_false, Bool.false_eq_true, decide_true, decide_false, ite_true, ite_false, O_hd, Ex.hd_ok]
    cases hs : a.simple with
    | false =>
      rw [Ex.fold1, hs] at q0
      simp (decide := true) (implicitDefEqProofs := false) only [Ex.ok_words, NX_RBt, NX_SKe, NX_LKt, Q_ret, Q_expr, Q_set, Q_sub, Q_if, Q_seq, Q_next, Q_ct, Q_bk, Q_retN, LK_nx, LK_ct, LK_bk, LK_rt, W_rng1, gName, SK_nx, SK_rt, SK_bk, SK_ct, RB_nx, RB_rt, W_var0, W_varS, W_c, W_op2, W_op1, W_nil, W_cons, W_fn, W_mt, W_call, W_tup, W_lst, W_dct0, W_pn, W_part, W_sl, W_isTy, W_tru, W_bl, W_and, W_or, W_not, W_eBl, W_if, W_eAnd, W_eOr, W_yes, O_ix_0, O_ix_1, O_ix_2, O_ix_3, O_ix_4, O_eq_ss, O_ne_ss, O_eq_ii, O_ne_ii, O_in_1, O_in_2, O_in_3, O_lt, O_le, O_gt, O_ge, O_add, O_sub, O_neg, O_int, O_intb, O_lent, O_min, O_max, O_tuplet, PV.bl.injEq, PV.int.injEq, PV.str.injEq, exists_eq_left', exists_eq_left, List.set_cons_zero, List.set_cons_succ, List.length_cons, List.length_nil, if_true, if_false, Bool.false_eq_true, decide_true, decide_false, ite_true, ite_false]
      exact q0
    | true =>
      rw [Ex.fold1, hs] at q0
      by_cases hb : b.hd = "num"
      · obtain ⟨j, rfl⟩ := Ex.hd_num hb
        simp (decide := true) (implicitDefEqProofs := false) only [Ex.hd, Ex.ok_words, NX_RBt, NX_SKe, NX_LKt, Q_ret, Q_expr, Q_set, Q_sub, Q_if, Q_seq, Q_next, Q_ct, Q_bk, Q_retN, LK_nx, LK_ct, LK_bk, LK_rt, W_rng1, gName, SK_nx, SK_rt, SK_bk, SK_ct, RB_nx, RB_rt, W_var0, W_varS, W_c, W_op2, W_op1, W_nil, W_cons, W_fn, W_mt, W_call, W_tup, W_lst, W_dct0, W_pn, W_part, W_sl, W_isTy, W_tru, W_bl, W_and, W_or, W_not, W_eBl, W_if, W_eAnd, W_eOr, W_yes, O_ix_0, O_ix_1, O_ix_2, O_ix_3, O_ix_4, O_eq_ss, O_ne_ss, O_eq_ii, O_ne_ii, O_in_1, O_in_2, O_in_3, O_lt, O_le, O_gt, O_ge, O_add, O_sub, O_neg, O_int, O_intb, O_lent, O_min, O_max, O_tuplet, PV.bl.injEq, PV.int.injEq, PV.str.injEq, exists_eq_left', exists_eq_left, List.set_cons_zero, List.set_cons_succ, List.length_cons, List.length_nil, if_true, if_false, Bool.false_eq_true, decide_true, decide_false, ite_true, ite_false]
        exact q0
      · rw [Ex.val_none hb] at q0
        simp (decide := true) (implicitDefEqProofs := false) only [hb, Ex.ok_words, NX_RBt, NX_SKe, NX_LKt, Q_ret, Q_expr, Q_set, Q_sub, Q_if, Q_seq, Q_next, Q_ct, Q_bk, Q_retN, LK_nx, LK_ct, LK_bk, LK_rt, W_rng1, gName, SK_nx, SK_rt, SK_bk, SK_ct, RB_nx, RB_rt, W_var0, W_varS, W_c, W_op2, W_op1, W_nil, W_cons, W_fn, W_mt, W_call, W_tup, W_lst, W_dct0, W_pn, W_part, W_sl, W_isTy, W_tru, W_bl, W_and, W_or, W_not, W_eBl, W_if, W_eAnd, W_eOr, W_yes, O_ix_0, O_ix_1, O_ix_2, O_ix_3, O_ix_4, O_eq_ss, O_ne_ss, O_eq_ii, O_ne_ii, O_in_1, O_in_2, O_in_3, O_lt, O_le, O_gt, O_ge, O_add, O_sub, O_neg, O_int, O_intb, O_lent, O_min, O_max, O_tuplet, PV.bl.injEq, PV.int.injEq, PV.str.injEq, exists_eq_left', exists_eq_left, List.set_cons_zero, List.set_cons_succ, List.length_cons, List.length_nil, if_true, if_false, Bool.false_eq_true, decide_true, decide_false, ite_true, ite_false]
        exact q0
  | look k x a b =>
    simp (decide := true) (implicitDefEqProofs := false) only [b_p_fold_one, Ex.pv, Ex.ok_words, NX_RBt, NX_SKe, NX_LKt, Q_ret, Q_expr, Q_set, Q_sub, Q_if, Q_seq, Q_next, Q_ct, Q_bk, Q_retN, LK_nx, LK_ct, LK_bk, LK_rt, W_rng1, gName, SK_nx, SK_rt, SK_bk, SK_ct, RB_nx, RB_rt, W_var0, W_varS, W_c, W_op2, W_op1, W_nil, W_cons, W_fn, W_mt, W_call, W_tup, W_lst, W_dct0, W_pn, W_part, W_sl, W_isTy, W_tru, W_bl, W_and, W_or, W_not, W_eBl, W_if, W_eAnd, W_eOr, W_yes, O_ix_0, O_ix_1, O_ix_2, O_ix_3, O_ix_4, O_eq_ss, O_ne_ss, O_eq_ii, O_ne_ii, O_in_1, O_in_2, O_in_3, O_lt, O_le, O_gt, O_ge, O_add, O_sub, O_neg, O_int, O_intb, O_lent, O_min, O_max, O_tuplet, PV.bl.injEq, PV.int.injEq, PV.str.injEq, exists_eq_left', exists_eq_left, List.set_cons_zero, List.set_cons_succ, List.length_cons, List.length_nil, if_true, if_false, Bool.false_eq_true, decide_true, decide_false, ite_true, ite_false, O_m1_5]
    refine w_is_simple n b ?_
    simp (decide := true) (implicitDefEqProofs := false) only [tru, Ex.ok_words, NX_RBt, NX_SKe, NX_LKt, Q_ret, Q_expr, Q_set, Q_sub, Q_if, Q_seq, Q_next, Q_ct, Q_bk, Q_retN, LK_nx, LK_ct, LK_bk, LK_rt, W_rng1, gName, SK_nx, SK_rt, SK_bk, SK_ct, RB_nx, RB_rt, W_var0, W_varS, W_c, W_op2, W_op1, W_nil, W_cons, W_fn, W_mt, W_call, W_tup, W_lst, W_dct0, W_pn, W_part, W_sl, W_isTy, W_tru, W_bl, W_and, W_or, W_not, W_eBl, W_if, W_eAnd, W_eOr, W_yes, O_ix_0, O_ix_1, O_ix_2, O_ix_3, O_ix_4, O_eq_ss, O_ne_ss, O_eq_ii, O_ne_ii, O_in_1, O_in_2, O_in_3, O_lt, O_le, O_gt, O_ge, O_add, O_sub, O_neg, O_int, O_intb, O_lent, O_min, O_max, O_tuplet, PV.bl.injEq, PV.int.injEq, PV.str.injEq, exists_eq_left', exists_eq_left, List.set_cons_zero, List.set_cons_succ, List.length_cons, List.length_nil, if_true, if_false, Bool.false_eq_true, decide_true, decide_false, ite_true, ite_false, O_m1_5]
    rw [Ex.fold1] at q0
    cases hs : b.simple <;> rw [hs] at q0 <;> simp (decide := true) (implicitDefEqProofs := false) only [Ex.ok_words, NX_RBt, NX_SKe, NX_LKt, Q_ret, Q_expr, Q_set, Q_sub, Q_if, Q_seq, Q_next, Q_ct, Q_bk, Q_retN, LK_nx, LK_ct, LK_bk, LK_rt, W_rng1, gName, SK_nx, SK_rt, SK_bk, SK_ct, RB_nx, RB_rt, W_var0, W_varS, W_c, W_op2, W_op1, W_nil, W_cons, W_fn, W_mt, W_call, W_tup, W_lst, W_dct0, W_pn, W_part, W_sl, W_isTy, W_tru, W_bl, W_and, W_or, W_not, W_eBl, W_if, W_eAnd, W_eOr, W_yes, O_ix_0, O_ix_1, O_ix_2, O_ix_3, O_ix_4, O_eq_ss, O_ne_ss, O_eq_ii, O_ne_ii, O_in_1, O_in_2, O_in_3, O_lt, O_le, O_gt, O_ge, O_add, O_sub, O_neg, O_int, O_intb, O_lent, O_min, O_max, O_tuplet, PV.bl.injEq, PV.int.injEq, PV.str.injEq, exists_eq_left', exists_eq_left, List.set_cons_zero, List.set_cons_succ, List.length_cons, List.length_nil, if_true, if_false, Bool.false_eq_true, decide_true, decide_false, ite_true, ite_false, O_m1_5] <;> exact q0
  | way k x a b =>
    simp (decide := true) (implicitDefEqProofs := false) only [b_p_fold_one, Ex.pv, Ex.ok_words, NX_RBt, NX_SKe, NX_LKt, Q_ret, Q_expr, Q_set, Q_sub, Q_if, Q_seq, Q_next, Q_ct, Q_bk, Q_retN, LK_nx, LK_ct, LK_bk, LK_rt, W_rng1, gName, SK_nx, SK_rt, SK_bk, SK_ct, RB_nx, RB_rt, W_var0, W_varS, W_c, W_op2, W_op1, W_nil, W_cons, W_fn, W_mt, W_call, W_tup, W_lst, W_dct0, W_pn, W_part, W_sl, W_isTy, W_tru, W_bl, W_and, W_or, W_not, W_eBl, W_if, W_eAnd, W_eOr, W_yes, O_ix_0, O_ix_1, O_ix_2, O_ix_3, O_ix_4, O_eq_ss, O_ne_ss, O_eq_ii, O_ne_ii, O_in_1, O_in_2, O_in_3, O_lt, O_le, O_gt, O_ge, O_add, O_sub, O_neg, O_int, O_intb, O_lent, O_min, O_max, O_tuplet, PV.bl.injEq, PV.int.injEq, PV.str.injEq, exists_eq_left', exists_eq_left, List.set_cons_zero, List.set_cons_succ, List.length_cons, List.length_nil, if_true, if_false, Bool.false_eq_true, decide_true, decide_false, ite_true, ite_false, O_m1_5]
    refine w_is_simple n b ?_
    simp (decide := true) (implicitDefEqProofs := false) only [tru, Ex.ok_words, NX_RBt, NX_SKe, NX_LKt, Q_ret, Q_expr, Q_set, Q_sub, Q_if, Q_seq, Q_next, Q_ct, Q_bk, Q_retN, LK_nx, LK_ct, LK_bk, LK_rt, W_rng1, gName, SK_nx, SK_rt, SK_bk, SK_ct, RB_nx, RB_rt, W_var0, W_varS, W_c, W_op2, W_op1, W_nil, W_cons, W_fn, W_mt, W_call, W_tup, W_lst, W_dct0, W_pn, W_part, W_sl, W_isTy, W_tru, W_bl, W_and, W_or, W_not, W_eBl, W_if, W_eAnd, W_eOr, W_yes, O_ix_0, O_ix_1, O_ix_2, O_ix_3, O_ix_4, O_eq_ss, O_ne_ss, O_eq_ii, O_ne_ii, O_in_1, O_in_2, O_in_3, O_lt, O_le, O_gt, O_ge, O_add, O_sub, O_neg, O_int, O_intb, O_lent, O_min, O_max, O_tuplet, PV.bl.injEq, PV.int.injEq, PV.str.injEq, exists_eq_left', exists_eq_left, List.set_cons_zero, List.set_cons_succ, List.length_cons, List.length_nil, if_true, if_false, Bool.false_eq_true, decide_true, decide_false, ite_true, ite_false, O_m1_5]
    rw [Ex.fold1] at q0
    cases hs : b.simple <;> rw [hs] at q0 <;> simp (decide := true) (implicitDefEqProofs := false) only [Ex.ok_words, NX_RBt, NX_SKe, NX_LKt, Q_ret, Q_expr, Q_set, Q_sub, Q_if, Q_seq, Q_next, Q_ct, Q_bk, Q_retN, LK_nx, LK_ct, LK_bk, LK_rt, W_rng1, gName, SK_nx, SK_rt, SK_bk, SK_ct, RB_nx, RB_rt, W_var0, W_varS, W_c, W_op2, W_op1, W_nil, W_cons, W_fn, W_mt, W_call, W_tup, W_lst, W_dct0, W_pn, W_part, W_sl, W_isTy, W_tru, W_bl, W_and, W_or, W_not, W_eBl, W_if, W_eAnd, W_eOr, W_yes, O_ix_0, O_ix_1, O_ix_2, O_ix_3, O_ix_4, O_eq_ss, O_ne_ss, O_eq_ii, O_ne_ii, O_in_1, O_in_2, O_in_3, O_lt, O_le, O_gt, O_ge, O_add, O_sub, O_neg, O_int, O_intb, O_lent, O_min, O_max, O_tuplet, PV.bl.injEq, PV.int.injEq, PV.str.injEq, exists_eq_left', exists_eq_left, List.set_cons_zero, List.set_cons_succ, List.length_cons, List.length_nil, if_true, if_false, Bool.false_eq_true, decide_true, decide_false, ite_true, ite_false, O_m1_5] <;> exact q0
  | anew x t a =>
    simp (decide := true) (implicitDefEqProofs := false) only [b_p_fold_one, Ex.pv, Ex.ok_words, NX_RBt, NX_SKe, NX_LKt, Q_ret, Q_expr, Q_set, Q_sub, Q_if, Q_seq, Q_next, Q_ct, Q_bk, Q_retN, LK_nx, LK_ct, LK_bk, LK_rt, W_rng1, gName, SK_nx, SK_rt, SK_bk, SK_ct, RB_nx, RB_rt, W_var0, W_varS, W_c, W_op2, W_op1, W_nil, W_cons, W_fn, W_mt, W_call, W_tup, W_lst, W_dct0, W_pn, W_part, W_sl, W_isTy, W_tru, W_bl, W_and, W_or, W_not, W_eBl, W_if, W_eAnd, W_eOr, W_yes, O_ix_0, O_ix_1, O_ix_2, O_ix_3, O_ix_4, O_eq_ss, O_ne_ss, O_eq_ii, O_ne_ii, O_in_1, O_in_2, O_in_3, O_lt, O_le, O_gt, O_ge, O_add, O_sub, O_neg, O_int, O_intb, O_lent, O_min, O_max, O_tuplet, PV.bl.injEq, PV.int.injEq, PV.str.injEq, exists_eq_left', exists_eq_left, List.set_cons_zero, List.set_cons_succ, List.length_cons, List.length_nil, if_true, if_false, Bool.false_eq_true, decide_true, decide_false, ite_true, ite_false, O_m1_4]
    refine w_is_simple n a ?_
    simp (decide := true) (implicitDefEqProofs := false) only [tru, Ex.ok_words, NX_RBt, NX_SKe, NX_LKt, Q_ret, Q_expr, Q_set, Q_sub, Q_if, Q_seq, Q_next, Q_ct, Q_bk, Q_retN, LK_nx, LK_ct, LK_bk, LK_rt, W_rng1, gName, SK_nx, SK_rt, SK_bk, SK_ct, RB_nx, RB_rt, W_var0, W_varS, W_c, W_op2, W_op1, W_nil, W_cons, W_fn, W_mt, W_call, W_tup, W_lst, W_dct0, W_pn, W_part, W_sl, W_isTy, W_tru, W_bl, W_and, W_or, W_not, W_eBl, W_if, W_eAnd, W_eOr, W_yes, O_ix_0, O_ix_1, O_ix_2, O_ix_3, O_ix_4, O_eq_ss, O_ne_ss, O_eq_ii, O_ne_ii, O_in_1, O_in_2, O_in_3, O_lt, O_le, O_gt, O_ge, O_add, O_sub, O_neg, O_int, O_intb, O_lent, O_min, O_max, O_tuplet, PV.bl.injEq, PV.int.injEq, PV.str.injEq, exists_eq_left', exists_eq_left, List.set_cons_zero, List.set_cons_succ, List.length_cons, List.length_nil, if_true, if_false, Bool.false_eq_true, decide_true, decide_false, ite_true, ite_false, O_m1_4]
    rw [Ex.fold1] at q0
    cases hs : a.simple <;> rw [hs] at q0 <;> simp (decide := true) (implicitDefEqProofs := false) only [Ex.ok_words, NX_RBt, NX_SKe, NX_LKt, Q_ret, Q_expr, Q_set, Q_sub, Q_if, Q_seq, Q_next, Q_ct, Q_bk, Q_retN, LK_nx, LK_ct, LK_bk, LK_rt, W_rng1, gName, SK_nx, SK_rt, SK_bk, SK_ct, RB_nx, RB_rt, W_var0, W_varS, W_c, W_op2, W_op1, W_nil, W_cons, W_fn, W_mt, W_call, W_tup, W_lst, W_dct0, W_pn, W_part, W_sl, W_isTy, W_tru, W_bl, W_and, W_or, W_not, W_eBl, W_if, W_eAnd, W_eOr, W_yes, O_ix_0, O_ix_1, O_ix_2, O_ix_3, O_ix_4, O_eq_ss, O_ne_ss, O_eq_ii, O_ne_ii, O_in_1, O_in_2, O_in_3, O_lt, O_le, O_gt, O_ge, O_add, O_sub, O_neg, O_int, O_intb, O_lent, O_min, O_max, O_tuplet, PV.bl.injEq, PV.int.injEq, PV.str.injEq, exists_eq_left', exists_eq_left, List.set_cons_zero, List.set_cons_succ, List.length_cons, List.length_nil, if_true, if_false, Bool.false_eq_true, decide_true, decide_false, ite_true, ite_false, O_m1_4] <;> exact q0
  | clean c b =>
    have hc : c.dep ≤ n := by simp only [Ex.dep] at hn; omega
    simp (decide := true) (implicitDefEqProofs := false) only [b_p_fold_one, Ex.pv, Ex.ok_words, NX_RBt, NX_SKe, NX_LKt, Q_ret, Q_expr, Q_set, Q_sub, Q_if, Q_seq, Q_next, Q_ct, Q_bk, Q_retN, LK_nx, LK_ct, LK_bk, LK_rt, W_rng1, gName, SK_nx, SK_rt, SK_bk, SK_ct, RB_nx, RB_rt, W_var0, W_varS, W_c, W_op2, W_op1, W_nil, W_cons, W_fn, W_mt, W_call, W_tup, W_lst, W_dct0, W_pn, W_part, W_sl, W_isTy, W_tru, W_bl, W_and, W_or, W_not, W_eBl, W_if, W_eAnd, W_eOr, W_yes, O_ix_0, O_ix_1, O_ix_2, O_ix_3, O_ix_4, O_eq_ss, O_ne_ss, O_eq_ii, O_ne_ii, O_in_1, O_in_2, O_in_3, O_lt, O_le, O_gt, O_ge, O_add, O_sub, O_neg, O_int, O_intb, O_lent, O_min, O_max, O_tuplet, PV.bl.injEq, PV.int.injEq, PV.str.injEq, exists_eq_left', exists_eq_left, List.set_cons_zero, List.set_cons_succ, List.length_cons, List.length_nil, if_true, if_false, Bool.false_eq_true, decide_true, decide_false, ite_true, ite_false]
    refine w_is_simple n b ?_
    simp (decide := true) (implicitDefEqProofs := false) only [tru, Ex.ok_words, NX_RBt, NX_SKe, NX_LKt, Q_ret, Q_expr, Q_set, Q_sub, Q_if, Q_seq, Q_next, Q_ct, Q_bk, Q_retN, LK_nx, LK_ct, LK_bk, LK_rt, W_rng1, gName, SK_nx, SK_rt, SK_bk, SK_ct, RB_nx, RB_rt, W_var0, W_varS, W_c, W_op2, W_op1, W_nil, W_cons, W_fn, W_mt, W_call, W_tup, W_lst, W_dct0, W_pn, W_part, W_sl, W_isTy, W_tru, W_bl, W_and, W_or, W_not, W_eBl, W_if, W_eAnd, W_eOr, W_yes, O_ix_0, O_ix_1, O_ix_2, O_ix_3, O_ix_4, O_eq_ss, O_ne_ss, O_eq_ii, O_ne_ii, O_in_1, O_in_2, O_in_3, O_lt, O_le, O_gt, O_ge, O_add, O_sub, O_neg, O_int, O_intb, O_lent, O_min, O_max, O_tuplet, PV.bl.injEq, PV.int.injEq, PV.str.injEq, exists_eq_left', exists_eq_left, List.set_cons_zero, List.set_cons_succ, List.length_cons, List.length_nil, if_true, if_false, Bool.false_eq_true, decide_true, decide_false, ite_true, ite_false]
    cases hs : b.simple with
    | false =>
      rw [Ex.fold1, hs] at q0
      simp (decide := true) (implicitDefEqProofs := false) only [Ex.ok_words, NX_RBt, NX_SKe, NX_LKt, Q_ret, Q_expr, Q_set, Q_sub, Q_if, Q_seq, Q_next, Q_ct, Q_bk, Q_retN, LK_nx, LK_ct, LK_bk, LK_rt, W_rng1, gName, SK_nx, SK_rt, SK_bk, SK_ct, RB_nx, RB_rt, W_var0, W_varS, W_c, W_op2, W_op1, W_nil, W_cons, W_fn, W_mt, W_call, W_tup, W_lst, W_dct0, W_pn, W_part, W_sl, W_isTy, W_tru, W_bl, W_and, W_or, W_not, W_eBl, W_if, W_eAnd, W_eOr, W_yes, O_ix_0, O_ix_1, O_ix_2, O_ix_3, O_ix_4, O_eq_ss, O_ne_ss, O_eq_ii, O_ne_ii, O_in_1, O_in_2, O_in_3, O_lt, O_le, O_gt, O_ge, O_add, O_sub, O_neg, O_int, O_intb, O_lent, O_min, O_max, O_tuplet, PV.bl.injEq, PV.int.injEq, PV.str.injEq, exists_eq_left', exists_eq_left, List.set_cons_zero, List.set_cons_succ, List.length_cons, List.length_nil, if_true, if_false, Bool.false_eq_true, decide_true, decide_false, ite_true, ite_false]
      exact q0
    | true =>
      simp (decide := true) (implicitDefEqProofs := false) only [Ex.ok_words, NX_RBt, NX_SKe, NX_LKt, Q_ret, Q_expr, Q_set, Q_sub, Q_if, Q_seq, Q_next, Q_ct, Q_bk, Q_retN, LK_nx, LK_ct, LK_bk, LK_rt, W_rng1, gName, SK_nx, SK_rt, SK_bk, SK_ct, RB_nx, RB_rt, W_var0, W_varS, W_c, W_op2, W_op1, W_nil, W_cons, W_fn, W_mt, W_call, W_tup, W_lst, W_dct0, W_pn, W_part, W_sl, W_isTy, W_tru, W_bl, W_and, W_or, W_not, W_eBl, W_if, W_eAnd, W_eOr, W_yes, O_ix_0, O_ix_1, O_ix_2, O_ix_3, O_ix_4, O_eq_ss, O_ne_ss, O_eq_ii, O_ne_ii, O_in_1, O_in_2, O_in_3, O_lt, O_le, O_gt, O_ge, O_add, O_sub, O_neg, O_int, O_intb, O_lent, O_min, O_max, O_tuplet, PV.bl.injEq, PV.int.injEq, PV.str.injEq, exists_eq_left', exists_eq_left, List.set_cons_zero, List.set_cons_succ, List.length_cons, List.length_nil, if_true, if_false, Bool.false_eq_true, decide_true, decide_false, ite_true, ite_false]
      refine w_has_tell n c hc fun m => ?_
      have q1 := q m
      rw [Ex.fold1, hs] at q1
      simp (decide := true) (implicitDefEqProofs := false) only [tru, Ex.ok_words, NX_RBt, NX_SKe, NX_LKt, Q_ret, Q_expr, Q_set, Q_sub, Q_if, Q_seq, Q_next, Q_ct, Q_bk, Q_retN, LK_nx, LK_ct, LK_bk, LK_rt, W_rng1, gName, SK_nx, SK_rt, SK_bk, SK_ct, RB_nx, RB_rt, W_var0, W_varS, W_c, W_op2, W_op1, W_nil, W_cons, W_fn, W_mt, W_call, W_tup, W_lst, W_dct0, W_pn, W_part, W_sl, W_isTy, W_tru, W_bl, W_and, W_or, W_not, W_eBl, W_if, W_eAnd, W_eOr, W_yes, O_ix_0, O_ix_1, O_ix_2, O_ix_3, O_ix_4, O_eq_ss, O_ne_ss, O_eq_ii, O_ne_ii, O_in_1, O_in_2, O_in_3, O_lt, O_le, O_gt, O_ge, O_add, O_sub, O_neg, O_int, O_intb, O_lent, O_min, O_max, O_tuplet, PV.bl.injEq, PV.int.injEq, PV.str.injEq, exists_eq_left', exists_eq_left, List.set_cons_zero, List.set_cons_succ, List.length_cons, List.length_nil, if_true, if_false, Bool.false_eq_true, decide_true, decide_false, ite_true, ite_false]
      cases ht : c.tells <;> rw [ht] at q1 <;> simp (decide := true) (implicitDefEqProofs := false) only [Ex.ok_words, NX_RBt, NX_SKe, NX_LKt, Q_ret, Q_expr, Q_set, Q_sub, Q_if, Q_seq, Q_next, Q_ct, Q_bk, Q_retN, LK_nx, LK_ct, LK_bk, LK_rt, W_rng1, gName, SK_nx, SK_rt, SK_bk, SK_ct, RB_nx, RB_rt, W_var0, W_varS, W_c, W_op2, W_op1, W_nil, W_cons, W_fn, W_mt, W_call, W_tup, W_lst, W_dct0, W_pn, W_part, W_sl, W_isTy, W_tru, W_bl, W_and, W_or, W_not, W_eBl, W_if, W_eAnd, W_eOr, W_yes, O_ix_0, O_ix_1, O_ix_2, O_ix_3, O_ix_4, O_eq_ss, O_ne_ss, O_eq_ii, O_ne_ii, O_in_1, O_in_2, O_in_3, O_lt, O_le, O_gt, O_ge, O_add, O_sub, O_neg, O_int, O_intb, O_lent, O_min, O_max, O_tuplet, PV.bl.injEq, PV.int.injEq, PV.str.injEq, exists_eq_left', exists_eq_left, List.set_cons_zero, List.set_cons_succ, List.length_cons, List.length_nil, if_true, if_false, Bool.false_eq_true, decide_true, decide_false, ite_true, ite_false, Bool.not_true, Bool.not_false] <;> exact q1
  | _ =>
    simp (decide := true) (implicitDefEqProofs := false) only [b_p_fold_one, Ex.pv, Ex.ok_words, NX_RBt, NX_SKe, NX_LKt, Q_ret, Q_expr, Q_set, Q_sub, Q_if, Q_seq, Q_next, Q_ct, Q_bk, Q_retN, LK_nx, LK_ct, LK_bk, LK_rt, W_rng1, gName, SK_nx, SK_rt, SK_bk, SK_ct, RB_nx, RB_rt, W_var0, W_varS, W_c, W_op2, W_op1, W_nil, W_cons, W_fn, W_mt, W_call, W_tup, W_lst, W_dct0, W_pn, W_part, W_sl, W_isTy, W_tru, W_bl, W_and, W_or, W_not, W_eBl, W_if, W_eAnd, W_eOr, W_yes, O_ix_0, O_ix_1, O_ix_2, O_ix_3, O_ix_4, O_eq_ss, O_ne_ss, O_eq_ii, O_ne_ii, O_in_1, O_in_2, O_in_3, O_lt, O_le, O_gt, O_ge, O_add, O_sub, O_neg, O_int, O_intb, O_lent, O_min, O_max, O_tuplet, PV.bl.injEq, PV.int.injEq, PV.str.injEq, exists_eq_left', exists_eq_left, List.set_cons_zero, List.set_cons_succ, List.length_cons, List.length_nil, if_true, if_false, Bool.false_eq_true, decide_true, decide_false, ite_true, ite_false]
    exact q0
end K19
end

section
set_option maxRecDepth 100000
set_option maxHeartbeats 4000000
/-! fold, folded -/
namespace K19
open PySem Vm

theorem O_sl1 (e : Ex) (g : G) (Q : PV → G → Prop) : O (opSl e.pv (some 1) none g) Q = Q (.tup e.ops) g := by
  rw [Ex.pv_eq]
  show Q (.tup (cutP (PV.str e.hd :: e.ops) (some 1) none)) g = _
  rw [cut1]
def FI (e : Ex) (g : G) (src : Src) (i : Nat) (σ : Sl) (g' : G) : Prop := src = .zip (.str e.form) (.tup e.ops) ∧ ∃ (m : G) (a b : Option PV), σ = [some e.pv, some (.ref g.length), a, b] ∧ g' = g ++ .lst (.str e.hd :: e.fsub.ops.take i) :: m
theorem w_fold : ∀ (n : Nat) (e : Ex) {g : G} {Q : PV → G → Prop}, e.dep ≤ n → (∀ m, Q e.folded.pv (g ++ m)) → WC (CF (n + 3)) ("", "fold") [e.pv] g Q
  | 0, e, g, Q, h, q => by have := e.dep_pos; omega
  | n + 1, e, g, Q, h, q => by
    refine wc_body (c_p_fold (n + 3) _ g) ?_
    simp (decide := true) (implicitDefEqProofs := false) only [b_p_fold, Ex.ok_words, NX_RBt, NX_SKe, NX_LKt, Q_ret, Q_expr, Q_set, Q_sub, Q_if, Q_seq, Q_next, Q_ct, Q_bk, Q_retN, LK_nx, LK_ct, LK_bk, LK_rt, W_rng1, gName, SK_nx, SK_rt, SK_bk, SK_ct, RB_nx, RB_rt, W_var0, W_varS, W_c, W_op2, W_op1, W_nil, W_cons, W_fn, W_mt, W_call, W_tup, W_lst, W_dct0, W_pn, W_part, W_sl, W_isTy, W_tru, W_bl, W_and, W_or, W_not, W_eBl, W_if, W_eAnd, W_eOr, W_yes, O_ix_0, O_ix_1, O_ix_2, O_ix_3, O_ix_4, O_eq_ss, O_ne_ss, O_eq_ii, O_ne_ii, O_in_1, O_in_2, O_in_3, O_lt, O_le, O_gt, O_ge, O_add, O_sub, O_neg, O_int, O_intb, O_lent, O_min, O_max, O_tuplet, PV.bl.injEq, PV.int.injEq, PV.str.injEq, exists_eq_left', exists_eq_left, List.set_cons_zero, List.set_cons_succ, List.length_cons, List.length_nil, if_true, if_false, Bool.false_eq_true, decide_true, decide_false, ite_true, ite_false, O_hd]
    generalize hσ : [some e.pv, some (PV.ref (List.length g)), none, none] = σ0
    refine wp_for (L := e.zipped) (FI e g) ?_ ?_ ?_ ?_
    · subst hσ
      simp (decide := true) (implicitDefEqProofs := false) only [W_zip, Ex.ok_words, NX_RBt, NX_SKe, NX_LKt, Q_ret, Q_expr, Q_set, Q_sub, Q_if, Q_seq, Q_next, Q_ct, Q_bk, Q_retN, LK_nx, LK_ct, LK_bk, LK_rt, W_rng1, gName, SK_nx, SK_rt, SK_bk, SK_ct, RB_nx, RB_rt, W_var0, W_varS, W_c, W_op2, W_op1, W_nil, W_cons, W_fn, W_mt, W_call, W_tup, W_lst, W_dct0, W_pn, W_part, W_sl, W_isTy, W_tru, W_bl, W_and, W_or, W_not, W_eBl, W_if, W_eAnd, W_eOr, W_yes, O_ix_0, O_ix_1, O_ix_2, O_ix_3, O_ix_4, O_eq_ss, O_ne_ss, O_eq_ii, O_ne_ii, O_in_1, O_in_2, O_in_3, O_lt, O_le, O_gt, O_ge, O_add, O_sub, O_neg, O_int, O_intb, O_lent, O_min, O_max, O_tuplet, PV.bl.injEq, PV.int.injEq, PV.str.injEq, exists_eq_left', exists_eq_left, List.set_cons_zero, List.set_cons_succ, List.length_cons, List.length_nil, if_true, if_false, Bool.false_eq_true, decide_true, decide_false, ite_true, ite_false, O_hd, at_forms, O_sl1, bsOf]
      exact ⟨rfl, [], none, none, rfl, rfl⟩
    · rintro src i σ g' ⟨rfl, _⟩
      exact items_zip_st g'
    · rintro src i x σ g' hx ⟨rfl, m, la, lb, rfl, rfl⟩
      rw [Ex.zipped_eq] at hx
      obtain ⟨c, b, rfl, hcb⟩ := Ex.zl_at hx
      refine ⟨_, _, rfl, ?_⟩
      have at_ : ∀ m : G, (g ++ GO.lst (.str e.hd :: e.fsub.ops.take i) :: m)[g.length]? = some (.lst (.str e.hd :: e.fsub.ops.take i)) := fun m => by simp
      have hin : ∀ g Q, O (opIn (.str c) (.str "ep") g) Q = Q (.bl (inS c "ep")) g := fun _ _ => rfl
      have blen : (PV.str e.hd :: e.fsub.ops.take i).length < big := by
        rw [List.length_cons, List.length_take]
        have : e.fsub.ops.length ≤ 4 := by cases e <;> simp [Ex.fsub, Ex.ops]
        unfold big; omega
      rcases hcb with ⟨h1, p, hp, rfl, h2⟩ | ⟨h1, h2⟩
      · have hd := Ex.dep_part hp
        simp (decide := true) (implicitDefEqProofs := false) only [Ex.ok_words, NX_RBt, NX_SKe, NX_LKt, Q_ret, Q_expr, Q_set, Q_sub, Q_if, Q_seq, Q_next, Q_ct, Q_bk, Q_retN, LK_nx, LK_ct, LK_bk, LK_rt, W_rng1, gName, SK_nx, SK_rt, SK_bk, SK_ct, RB_nx, RB_rt, W_var0, W_varS, W_c, W_op2, W_op1, W_nil, W_cons, W_fn, W_mt, W_call, W_tup, W_lst, W_dct0, W_pn, W_part, W_sl, W_isTy, W_tru, W_bl, W_and, W_or, W_not, W_eBl, W_if, W_eAnd, W_eOr, W_yes, O_ix_0, O_ix_1, O_ix_2, O_ix_3, O_ix_4, O_eq_ss, O_ne_ss, O_eq_ii, O_ne_ii, O_in_1, O_in_2, O_in_3, O_lt, O_le, O_gt, O_ge, O_add, O_sub, O_neg, O_int, O_intb, O_lent, O_min, O_max, O_tuplet, PV.bl.injEq, PV.int.injEq, PV.str.injEq, exists_eq_left', exists_eq_left, List.set_cons_zero, List.set_cons_succ, List.length_cons, List.length_nil, if_true, if_false, Bool.false_eq_true, decide_true, decide_false, ite_true, ite_false, hin, h1, isL_ok _ (at_ m)]
        refine w_fold n p (by omega) fun m2 => ?_
        have e1 : (g ++ GO.lst (.str e.hd :: e.fsub.ops.take i) :: m) ++ m2 = g ++ GO.lst (.str e.hd :: e.fsub.ops.take i) :: (m ++ m2) := by simp
        rw [e1, O_app _ _ (at_ (m ++ m2)) blen]
        try simp (decide := true) (implicitDefEqProofs := false) only [Ex.ok_words, NX_RBt, NX_SKe, NX_LKt, Q_ret, Q_expr, Q_set, Q_sub, Q_if, Q_seq, Q_next, Q_ct, Q_bk, Q_retN, LK_nx, LK_ct, LK_bk, LK_rt, W_rng1, gName, SK_nx, SK_rt, SK_bk, SK_ct, RB_nx, RB_rt, W_var0, W_varS, W_c, W_op2, W_op1, W_nil, W_cons, W_fn, W_mt, W_call, W_tup, W_lst, W_dct0, W_pn, W_part, W_sl, W_isTy, W_tru, W_bl, W_and, W_or, W_not, W_eBl, W_if, W_eAnd, W_eOr, W_yes, O_ix_0, O_ix_1, O_ix_2, O_ix_3, O_ix_4, O_eq_ss, O_ne_ss, O_eq_ii, O_ne_ii, O_in_1, O_in_2, O_in_3, O_lt, O_le, O_gt, O_ge, O_add, O_sub, O_neg, O_int, O_intb, O_lent, O_min, O_max, O_tuplet, PV.bl.injEq, PV.int.injEq, PV.str.injEq, exists_eq_left', exists_eq_left, List.set_cons_zero, List.set_cons_succ, List.length_cons, List.length_nil, if_true, if_false, Bool.false_eq_true, decide_true, decide_false, ite_true, ite_false]
        refine ⟨rfl, m ++ m2, _, _, rfl, ?_⟩
        rw [List.take_succ, h2]
        simp
      · simp (decide := true) (implicitDefEqProofs := false) only [Ex.ok_words, NX_RBt, NX_SKe, NX_LKt, Q_ret, Q_expr, Q_set, Q_sub, Q_if, Q_seq, Q_next, Q_ct, Q_bk, Q_retN, LK_nx, LK_ct, LK_bk, LK_rt, W_rng1, gName, SK_nx, SK_rt, SK_bk, SK_ct, RB_nx, RB_rt, W_var0, W_varS, W_c, W_op2, W_op1, W_nil, W_cons, W_fn, W_mt, W_call, W_tup, W_lst, W_dct0, W_pn, W_part, W_sl, W_isTy, W_tru, W_bl, W_and, W_or, W_not, W_eBl, W_if, W_eAnd, W_eOr, W_yes, O_ix_0, O_ix_1, O_ix_2, O_ix_3, O_ix_4, O_eq_ss, O_ne_ss, O_eq_ii, O_ne_ii, O_in_1, O_in_2, O_in_3, O_lt, O_le, O_gt, O_ge, O_add, O_sub, O_neg, O_int, O_intb, O_lent, O_min, O_max, O_tuplet, PV.bl.injEq, PV.int.injEq, PV.str.injEq, exists_eq_left', exists_eq_left, List.set_cons_zero, List.set_cons_succ, List.length_cons, List.length_nil, if_true, if_false, Bool.false_eq_true, decide_true, decide_false, ite_true, ite_false, hin, h1, isL_ok _ (at_ m), O_app _ _ (at_ m) blen]
        refine ⟨rfl, m, _, _, rfl, ?_⟩
        rw [List.take_succ, h2]
        simp
    · rintro src σ g' ⟨rfl, m, la, lb, rfl, rfl⟩
      rw [Ex.zipped_eq, ← Ex.fsub_len, List.take_length, ← Ex.fsub_hd]
      have at_ : (g ++ GO.lst (.str e.fsub.hd :: e.fsub.ops) :: m)[g.length]? = some (.lst (.str e.fsub.hd :: e.fsub.ops)) := by simp
      simp (decide := true) (implicitDefEqProofs := false) only [Ex.ok_words, NX_RBt, NX_SKe, NX_LKt, Q_ret, Q_expr, Q_set, Q_sub, Q_if, Q_seq, Q_next, Q_ct, Q_bk, Q_retN, LK_nx, LK_ct, LK_bk, LK_rt, W_rng1, gName, SK_nx, SK_rt, SK_bk, SK_ct, RB_nx, RB_rt, W_var0, W_varS, W_c, W_op2, W_op1, W_nil, W_cons, W_fn, W_mt, W_call, W_tup, W_lst, W_dct0, W_pn, W_part, W_sl, W_isTy, W_tru, W_bl, W_and, W_or, W_not, W_eBl, W_if, W_eAnd, W_eOr, W_yes, O_ix_0, O_ix_1, O_ix_2, O_ix_3, O_ix_4, O_eq_ss, O_ne_ss, O_eq_ii, O_ne_ii, O_in_1, O_in_2, O_in_3, O_lt, O_le, O_gt, O_ge, O_add, O_sub, O_neg, O_int, O_intb, O_lent, O_min, O_max, O_tuplet, PV.bl.injEq, PV.int.injEq, PV.str.injEq, exists_eq_left', exists_eq_left, List.set_cons_zero, List.set_cons_succ, List.length_cons, List.length_nil, if_true, if_false, Bool.false_eq_true, decide_true, decide_false, ite_true, ite_false, O_tuplel _ _ (seq_l _ at_)]
      rw [← Ex.pv_eq]
      refine w_fold_one (n + 1) e.fsub (Nat.le_trans e.fsub_dep h) fun m2 => ?_
      have := q (GO.lst (.str e.fsub.hd :: e.fsub.ops) :: (m ++ m2))
      rw [Ex.folded_eq] at this
      simpa [SK, RB] using this
theorem w_folded (n : Nat) (es : List Ex) {g : G} {Q : PV → G → Prop} (hd : ∀ e ∈ es, e.dep ≤ n) (hl : es.length ≤ 1000) (q : ∀ m, Q (.tup (es.map fun e => e.folded.pv)) (g ++ m)) : WC (CF (n + 4)) ("", "folded") [.tup (es.map Ex.pv)] g Q := by
  refine wc_body (c_p_folded (n + 3) _ g) ?_
  simp (decide := true) (implicitDefEqProofs := false) only [b_p_folded, Ex.ok_words, NX_RBt, NX_SKe, NX_LKt, Q_ret, Q_expr, Q_set, Q_sub, Q_if, Q_seq, Q_next, Q_ct, Q_bk, Q_retN, LK_nx, LK_ct, LK_bk, LK_rt, W_rng1, gName, SK_nx, SK_rt, SK_bk, SK_ct, RB_nx, RB_rt, W_var0, W_varS, W_c, W_op2, W_op1, W_nil, W_cons, W_fn, W_mt, W_call, W_tup, W_lst, W_dct0, W_pn, W_part, W_sl, W_isTy, W_tru, W_bl, W_and, W_or, W_not, W_eBl, W_if, W_eAnd, W_eOr, W_yes, O_ix_0, O_ix_1, O_ix_2, O_ix_3, O_ix_4, O_eq_ss, O_ne_ss, O_eq_ii, O_ne_ii, O_in_1, O_in_2, O_in_3, O_lt, O_le, O_gt, O_ge, O_add, O_sub, O_neg, O_int, O_intb, O_lent, O_min, O_max, O_tuplet, PV.bl.injEq, PV.int.injEq, PV.str.injEq, exists_eq_left', exists_eq_left, List.set_cons_zero, List.set_cons_succ, List.length_cons, List.length_nil, if_true, if_false, Bool.false_eq_true, decide_true, decide_false, ite_true, ite_false]
  refine wp_map (L := es.map Ex.pv) (ys := es.map fun e => e.folded.pv) (by simp) (by rw [List.length_map]; exact Nat.le_trans hl (by decide)) ?_ ?_
  · simp (decide := true) (implicitDefEqProofs := false) only [W_bs, bs_tup, Ex.ok_words, NX_RBt, NX_SKe, NX_LKt, Q_ret, Q_expr, Q_set, Q_sub, Q_if, Q_seq, Q_next, Q_ct, Q_bk, Q_retN, LK_nx, LK_ct, LK_bk, LK_rt, W_rng1, gName, SK_nx, SK_rt, SK_bk, SK_ct, RB_nx, RB_rt, W_var0, W_varS, W_c, W_op2, W_op1, W_nil, W_cons, W_fn, W_mt, W_call, W_tup, W_lst, W_dct0, W_pn, W_part, W_sl, W_isTy, W_tru, W_bl, W_and, W_or, W_not, W_eBl, W_if, W_eAnd, W_eOr, W_yes, O_ix_0, O_ix_1, O_ix_2, O_ix_3, O_ix_4, O_eq_ss, O_ne_ss, O_eq_ii, O_ne_ii, O_in_1, O_in_2, O_in_3, O_lt, O_le, O_gt, O_ge, O_add, O_sub, O_neg, O_int, O_intb, O_lent, O_min, O_max, O_tuplet, PV.bl.injEq, PV.int.injEq, PV.str.injEq, exists_eq_left', exists_eq_left, List.set_cons_zero, List.set_cons_succ, List.length_cons, List.length_nil, if_true, if_false, Bool.false_eq_true, decide_true, decide_false, ite_true, ite_false]
    refine ⟨fun m => items_tup _ _, fun m => ?_⟩
    have at_ : (g ++ GO.lst (es.map fun e => e.folded.pv) :: m)[g.length]? = some (.lst (es.map fun e => e.folded.pv)) := by simp
    rw [O_tuplel _ _ (seq_l _ at_)]
    have := q (GO.lst (es.map fun e => e.folded.pv) :: m)
    simpa [SK, RB] using this
  · intro j x y g' Q' hx hy hq
    rw [List.getElem?_map] at hx hy
    cases hp : es[j]? with
    | none => rw [hp] at hx; cases hx
    | some p =>
      rw [hp] at hx hy
      cases hx
      cases hy
      simp (decide := true) (implicitDefEqProofs := false) only [wipeP, Ex.ok_words, NX_RBt, NX_SKe, NX_LKt, Q_ret, Q_expr, Q_set, Q_sub, Q_if, Q_seq, Q_next, Q_ct, Q_bk, Q_retN, LK_nx, LK_ct, LK_bk, LK_rt, W_rng1, gName, SK_nx, SK_rt, SK_bk, SK_ct, RB_nx, RB_rt, W_var0, W_varS, W_c, W_op2, W_op1, W_nil, W_cons, W_fn, W_mt, W_call, W_tup, W_lst, W_dct0, W_pn, W_part, W_sl, W_isTy, W_tru, W_bl, W_and, W_or, W_not, W_eBl, W_if, W_eAnd, W_eOr, W_yes, O_ix_0, O_ix_1, O_ix_2, O_ix_3, O_ix_4, O_eq_ss, O_ne_ss, O_eq_ii, O_ne_ii, O_in_1, O_in_2, O_in_3, O_lt, O_le, O_gt, O_ge, O_add, O_sub, O_neg, O_int, O_intb, O_lent, O_min, O_max, O_tuplet, PV.bl.injEq, PV.int.injEq, PV.str.injEq, exists_eq_left', exists_eq_left, List.set_cons_zero, List.set_cons_succ, List.length_cons, List.length_nil, if_true, if_false, Bool.false_eq_true, decide_true, decide_false, ite_true, ite_false]
      exact w_fold n p (hd p (List.mem_of_getElem? hp)) hq
end K19
end

section
set_option maxRecDepth 100000
set_option maxHeartbeats 4000000
/-! the generator of programs -/
namespace K19
open PySem Vm

theorem w_pickJ (n : Nat) {t nr : Nat} {rs : List Nat} {names : List Str} {g0 g : G} {k : Nat} {m : Int} {Q : PV → G → Prop} (J : GJ t nr rs names g0 k g) (hk : k < 100000000000) (hm : 0 < m)
    (q : ∀ v g', 0 ≤ v → v < m → GJ t nr rs names g0 (k + 1) g' → Fr [t] g g' → Q (.int v) g') : WC (CF (n + 1)) ("", "_law_pick") [.ref t, .int m] g Q := by
  refine w_pick n J.tp hk hm fun v g' h0 h1 T F hl => ?_
  refine q v g' h0 h1 (J.then (rs' := []) ?_ fun _ h => nomatch h) F
  exact ⟨T, F, ⟨F.get J.nm.at_ (by simp [J.nt]), J.nm.ne, J.nm.le, J.nm.ok⟩, fun _ h => (nomatch h), Nat.lt_of_lt_of_le J.lt J.fr.le, Nat.lt_of_lt_of_le J.nlt J.fr.le, fun _ h => (nomatch h), J.nt, fun h => (nomatch h)⟩
/-- what is grown -/
structure Grown (p : Bool) (body : Int) (d : Nat) (e : Ex) : Prop where
  ok : e.ok body p = true
  dp : e.dep ≤ d
theorem Grown.mono {p : Bool} {body : Int} {d d' : Nat} {e : Ex} (G : Grown p body d e) (h : d ≤ d') : Grown p body d' e := ⟨G.ok, Nat.le_trans G.dp h⟩
theorem w_leaf (n : Nat) {t nr : Nat} {rs : List Nat} {names : List Str} {g : G} {k : Nat} {Q : PV → G → Prop} (J : GJ t nr rs names g k g) (hk : k + 10 < 100000000000)
    (q : ∀ e k' g', (∀ body, Grown false body 1 e) → k ≤ k' → k' ≤ k + 4 → GJ t nr rs names g k' g' → Q e.pv g') : WC (CF (n + 2)) ("", "_law_leaf") [.ref t, .ref nr] g Q := by
  refine wc_body (c_law_leaf (n + 1) _ _ g) ?_
  simp (decide := true) (implicitDefEqProofs := false) only [b_law_leaf, Ex.ok_words, NX_RBt, NX_SKe, NX_LKt, Q_ret, Q_expr, Q_set, Q_sub, Q_if, Q_seq, Q_next, Q_ct, Q_bk, Q_retN, LK_nx, LK_ct, LK_bk, LK_rt, W_rng1, gName, SK_nx, SK_rt, SK_bk, SK_ct, RB_nx, RB_rt, W_var0, W_varS, W_c, W_op2, W_op1, W_nil, W_cons, W_fn, W_mt, W_call, W_tup, W_lst, W_dct0, W_pn, W_part, W_sl, W_isTy, W_tru, W_bl, W_and, W_or, W_not, W_eBl, W_if, W_eAnd, W_eOr, W_yes, O_ix_0, O_ix_1, O_ix_2, O_ix_3, O_ix_4, O_eq_ss, O_ne_ss, O_eq_ii, O_ne_ii, O_in_1, O_in_2, O_in_3, O_lt, O_le, O_gt, O_ge, O_add, O_sub, O_neg, O_int, O_intb, O_lent, O_min, O_max, O_tuplet, PV.bl.injEq, PV.int.injEq, PV.str.injEq, exists_eq_left', exists_eq_left, List.set_cons_zero, List.set_cons_succ, List.length_cons, List.length_nil, if_true, if_false, Bool.false_eq_true, decide_true, decide_false, ite_true, ite_false]
  refine w_pickJ n J (by omega) (by decide) fun v g1 h0 h1 J1 F1 => ?_
  simp (decide := true) (implicitDefEqProofs := false) only [Ex.ok_words, NX_RBt, NX_SKe, NX_LKt, Q_ret, Q_expr, Q_set, Q_sub, Q_if, Q_seq, Q_next, Q_ct, Q_bk, Q_retN, LK_nx, LK_ct, LK_bk, LK_rt, W_rng1, gName, SK_nx, SK_rt, SK_bk, SK_ct, RB_nx, RB_rt, W_var0, W_varS, W_c, W_op2, W_op1, W_nil, W_cons, W_fn, W_mt, W_call, W_tup, W_lst, W_dct0, W_pn, W_part, W_sl, W_isTy, W_tru, W_bl, W_and, W_or, W_not, W_eBl, W_if, W_eAnd, W_eOr, W_yes, O_ix_0, O_ix_1, O_ix_2, O_ix_3, O_ix_4, O_eq_ss, O_ne_ss, O_eq_ii, O_ne_ii, O_in_1, O_in_2, O_in_3, O_lt, O_le, O_gt, O_ge, O_add, O_sub, O_neg, O_int, O_intb, O_lent, O_min, O_max, O_tuplet, PV.bl.injEq, PV.int.injEq, PV.str.injEq, exists_eq_left', exists_eq_left, List.set_cons_zero, List.set_cons_succ, List.length_cons, List.length_nil, if_true, if_false, Bool.false_eq_true, decide_true, decide_false, ite_true, ite_false]
  by_cases a : v = 0
  · subst a
    simp (decide := true) (implicitDefEqProofs := false) only [Ex.ok_words, NX_RBt, NX_SKe, NX_LKt, Q_ret, Q_expr, Q_set, Q_sub, Q_if, Q_seq, Q_next, Q_ct, Q_bk, Q_retN, LK_nx, LK_ct, LK_bk, LK_rt, W_rng1, gName, SK_nx, SK_rt, SK_bk, SK_ct, RB_nx, RB_rt, W_var0, W_varS, W_c, W_op2, W_op1, W_nil, W_cons, W_fn, W_mt, W_call, W_tup, W_lst, W_dct0, W_pn, W_part, W_sl, W_isTy, W_tru, W_bl, W_and, W_or, W_not, W_eBl, W_if, W_eAnd, W_eOr, W_yes, O_ix_0, O_ix_1, O_ix_2, O_ix_3, O_ix_4, O_eq_ss, O_ne_ss, O_eq_ii, O_ne_ii, O_in_1, O_in_2, O_in_3, O_lt, O_le, O_gt, O_ge, O_add, O_sub, O_neg, O_int, O_intb, O_lent, O_min, O_max, O_tuplet, PV.bl.injEq, PV.int.injEq, PV.str.injEq, exists_eq_left', exists_eq_left, List.set_cons_zero, List.set_cons_succ, List.length_cons, List.length_nil, if_true, if_false, Bool.false_eq_true, decide_true, decide_false, ite_true, ite_false]
    refine w_pickJ n J1 (by omega) (by decide) fun v2 g2 _ _ J2 F2 => ?_
    simp (decide := true) (implicitDefEqProofs := false) only [Ex.ok_words, NX_RBt, NX_SKe, NX_LKt, Q_ret, Q_expr, Q_set, Q_sub, Q_if, Q_seq, Q_next, Q_ct, Q_bk, Q_retN, LK_nx, LK_ct, LK_bk, LK_rt, W_rng1, gName, SK_nx, SK_rt, SK_bk, SK_ct, RB_nx, RB_rt, W_var0, W_varS, W_c, W_op2, W_op1, W_nil, W_cons, W_fn, W_mt, W_call, W_tup, W_lst, W_dct0, W_pn, W_part, W_sl, W_isTy, W_tru, W_bl, W_and, W_or, W_not, W_eBl, W_if, W_eAnd, W_eOr, W_yes, O_ix_0, O_ix_1, O_ix_2, O_ix_3, O_ix_4, O_eq_ss, O_ne_ss, O_eq_ii, O_ne_ii, O_in_1, O_in_2, O_in_3, O_lt, O_le, O_gt, O_ge, O_add, O_sub, O_neg, O_int, O_intb, O_lent, O_min, O_max, O_tuplet, PV.bl.injEq, PV.int.injEq, PV.str.injEq, exists_eq_left', exists_eq_left, List.set_cons_zero, List.set_cons_succ, List.length_cons, List.length_nil, if_true, if_false, Bool.false_eq_true, decide_true, decide_false, ite_true, ite_false, t_p6]
    refine w_pickJ n J2 (by omega) (by decide) fun v3 g3 a3 b3 J3 F3 => ?_
    simp (decide := true) (implicitDefEqProofs := false) only [Ex.ok_words, NX_RBt, NX_SKe, NX_LKt, Q_ret, Q_expr, Q_set, Q_sub, Q_if, Q_seq, Q_next, Q_ct, Q_bk, Q_retN, LK_nx, LK_ct, LK_bk, LK_rt, W_rng1, gName, SK_nx, SK_rt, SK_bk, SK_ct, RB_nx, RB_rt, W_var0, W_varS, W_c, W_op2, W_op1, W_nil, W_cons, W_fn, W_mt, W_call, W_tup, W_lst, W_dct0, W_pn, W_part, W_sl, W_isTy, W_tru, W_bl, W_and, W_or, W_not, W_eBl, W_if, W_eAnd, W_eOr, W_yes, O_ix_0, O_ix_1, O_ix_2, O_ix_3, O_ix_4, O_eq_ss, O_ne_ss, O_eq_ii, O_ne_ii, O_in_1, O_in_2, O_in_3, O_lt, O_le, O_gt, O_ge, O_add, O_sub, O_neg, O_int, O_intb, O_lent, O_min, O_max, O_tuplet, PV.bl.injEq, PV.int.injEq, PV.str.injEq, exists_eq_left', exists_eq_left, List.set_cons_zero, List.set_cons_succ, List.length_cons, List.length_nil, if_true, if_false, Bool.false_eq_true, decide_true, decide_false, ite_true, ite_false, t_p30, O_mul _ _ _ _ (small_of a3 (Int.lt_trans b3 (by decide)))]
    refine w_pickJ n (J3.app _) (by omega) (by decide) fun v4 g4 a4 b4 J4 F4 => ?_
    have at_ := F4.get (new_at (g := g3)) (by have := J3.lt; have := J3.fr.le; simp; omega)
    simp (decide := true) (implicitDefEqProofs := false) only [Ex.ok_words, NX_RBt, NX_SKe, NX_LKt, Q_ret, Q_expr, Q_set, Q_sub, Q_if, Q_seq, Q_next, Q_ct, Q_bk, Q_retN, LK_nx, LK_ct, LK_bk, LK_rt, W_rng1, gName, SK_nx, SK_rt, SK_bk, SK_ct, RB_nx, RB_rt, W_var0, W_varS, W_c, W_op2, W_op1, W_nil, W_cons, W_fn, W_mt, W_call, W_tup, W_lst, W_dct0, W_pn, W_part, W_sl, W_isTy, W_tru, W_bl, W_and, W_or, W_not, W_eBl, W_if, W_eAnd, W_eOr, W_yes, O_ix_0, O_ix_1, O_ix_2, O_ix_3, O_ix_4, O_eq_ss, O_ne_ss, O_eq_ii, O_ne_ii, O_in_1, O_in_2, O_in_3, O_lt, O_le, O_gt, O_ge, O_add, O_sub, O_neg, O_int, O_intb, O_lent, O_min, O_max, O_tuplet, PV.bl.injEq, PV.int.injEq, PV.str.injEq, exists_eq_left', exists_eq_left, List.set_cons_zero, List.set_cons_succ, List.length_cons, List.length_nil, if_true, if_false, Bool.false_eq_true, decide_true, decide_false, ite_true, ite_false, O_ix2 at_]
    by_cases c : v4 = 0
    · simp only [c, if_true]
      exact q (.num _) _ _ (fun body => ⟨rfl, Nat.le_refl _⟩) (by omega) (by omega) J4
    · simp only [c, if_false]
      exact q (.num _) _ _ (fun body => ⟨rfl, Nat.le_refl _⟩) (by omega) (by omega) J4
  · simp (decide := true) (implicitDefEqProofs := false) only [a, Ex.ok_words, NX_RBt, NX_SKe, NX_LKt, Q_ret, Q_expr, Q_set, Q_sub, Q_if, Q_seq, Q_next, Q_ct, Q_bk, Q_retN, LK_nx, LK_ct, LK_bk, LK_rt, W_rng1, gName, SK_nx, SK_rt, SK_bk, SK_ct, RB_nx, RB_rt, W_var0, W_varS, W_c, W_op2, W_op1, W_nil, W_cons, W_fn, W_mt, W_call, W_tup, W_lst, W_dct0, W_pn, W_part, W_sl, W_isTy, W_tru, W_bl, W_and, W_or, W_not, W_eBl, W_if, W_eAnd, W_eOr, W_yes, O_ix_0, O_ix_1, O_ix_2, O_ix_3, O_ix_4, O_eq_ss, O_ne_ss, O_eq_ii, O_ne_ii, O_in_1, O_in_2, O_in_3, O_lt, O_le, O_gt, O_ge, O_add, O_sub, O_neg, O_int, O_intb, O_lent, O_min, O_max, O_tuplet, PV.bl.injEq, PV.int.injEq, PV.str.injEq, exists_eq_left', exists_eq_left, List.set_cons_zero, List.set_cons_succ, List.length_cons, List.length_nil, if_true, if_false, Bool.false_eq_true, decide_true, decide_false, ite_true, ite_false]
    by_cases b : v = 1
    · simp (decide := true) (implicitDefEqProofs := false) only [b, Ex.ok_words, NX_RBt, NX_SKe, NX_LKt, Q_ret, Q_expr, Q_set, Q_sub, Q_if, Q_seq, Q_next, Q_ct, Q_bk, Q_retN, LK_nx, LK_ct, LK_bk, LK_rt, W_rng1, gName, SK_nx, SK_rt, SK_bk, SK_ct, RB_nx, RB_rt, W_var0, W_varS, W_c, W_op2, W_op1, W_nil, W_cons, W_fn, W_mt, W_call, W_tup, W_lst, W_dct0, W_pn, W_part, W_sl, W_isTy, W_tru, W_bl, W_and, W_or, W_not, W_eBl, W_if, W_eAnd, W_eOr, W_yes, O_ix_0, O_ix_1, O_ix_2, O_ix_3, O_ix_4, O_eq_ss, O_ne_ss, O_eq_ii, O_ne_ii, O_in_1, O_in_2, O_in_3, O_lt, O_le, O_gt, O_ge, O_add, O_sub, O_neg, O_int, O_intb, O_lent, O_min, O_max, O_tuplet, PV.bl.injEq, PV.int.injEq, PV.str.injEq, exists_eq_left', exists_eq_left, List.set_cons_zero, List.set_cons_succ, List.length_cons, List.length_nil, if_true, if_false, Bool.false_eq_true, decide_true, decide_false, ite_true, ite_false]
      exact q .read _ _ (fun body => ⟨rfl, Nat.le_refl _⟩) (by omega) (by omega) J1
    · simp (decide := true) (implicitDefEqProofs := false) only [b, Ex.ok_words, NX_RBt, NX_SKe, NX_LKt, Q_ret, Q_expr, Q_set, Q_sub, Q_if, Q_seq, Q_next, Q_ct, Q_bk, Q_retN, LK_nx, LK_ct, LK_bk, LK_rt, W_rng1, gName, SK_nx, SK_rt, SK_bk, SK_ct, RB_nx, RB_rt, W_var0, W_varS, W_c, W_op2, W_op1, W_nil, W_cons, W_fn, W_mt, W_call, W_tup, W_lst, W_dct0, W_pn, W_part, W_sl, W_isTy, W_tru, W_bl, W_and, W_or, W_not, W_eBl, W_if, W_eAnd, W_eOr, W_yes, O_ix_0, O_ix_1, O_ix_2, O_ix_3, O_ix_4, O_eq_ss, O_ne_ss, O_eq_ii, O_ne_ii, O_in_1, O_in_2, O_in_3, O_lt, O_le, O_gt, O_ge, O_add, O_sub, O_neg, O_int, O_intb, O_lent, O_min, O_max, O_tuplet, PV.bl.injEq, PV.int.injEq, PV.str.injEq, exists_eq_left', exists_eq_left, List.set_cons_zero, List.set_cons_succ, List.length_cons, List.length_nil, if_true, if_false, Bool.false_eq_true, decide_true, decide_false, ite_true, ite_false, J1.nm.len]
      have := J1.nm.ne
      refine w_pickJ n J1 (by omega) (by omega) fun v2 g2 a2 b2 J2 F2 => ?_
      refine J2.nm.some_of a2 b2 fun x hx => ?_
      exact q (.name x) _ _ (fun body => ⟨hx, Nat.le_refl _⟩) (by omega) (by omega) J2
theorem w_plain_tail (n : Nat) {t nr : Nat} {rs : List Nat} {names : List Str} {g0 g : G} {k d : Nat} {i : Int} {w : Str} {Q : PV → G → Prop} (J : GJ t nr rs names g0 k g) (hk : k + 40 * 4 ^ d < 100000000000) (hw : w ∈ (["plus", "less", "let", "tell", "if"] : List Str))
    (ih : ∀ {g : G} {k' : Nat} {Q : PV → G → Prop}, k ≤ k' → k' ≤ k + 30 * 4 ^ d → GJ t nr rs names g k' g → (∀ e k2 g2, (∀ body, Grown true body d e) → k' ≤ k2 → k2 ≤ k' + 10 * 4 ^ d → GJ t nr rs names g k2 g2 → Q e.pv g2) → WC (CF (n + 1)) ("", "_law_a_plain") [.ref t, .ref nr, .int (i - 1)] g Q)
    (q : ∀ e k' g', (∀ body, Grown true body (d + 1) e) → k ≤ k' → k' ≤ k + 30 * 4 ^ d + 1 → GJ t nr rs names g0 k' g' → Q e.pv g') :
    WS (t_law_a_plain_2 (CF (n + 1))) [some (.ref t), some (.ref nr), some (.int i), some (.str w), none, none] g (RB Q) := by
  have mk : ∀ m : Nat, (W (iRng1 (eMt isD mGet (eDct [((eC (.str "tell")), (eC (.int 1))), ((eC (.str "if")), (eC (.int 3)))]) (eCons (eVar 3) (eCons (eC (.int 2)) eNil)))) [some (.ref t), some (.ref nr), some (.int i), some (.str w), none, none] g fun src g1 => src = .rng 0 1 m ∧ GJ t nr rs names g0 k g1) → m ≤ 3 →
      (∀ es : List Ex, es.length = m → (∀ e ∈ es, ∀ body, Grown true body d e) → ∀ k' D g', k ≤ k' → k' ≤ k + 30 * 4 ^ d → g'[D]? = some (.lst (es.map Ex.pv)) → GJ t nr rs names g0 k' g' → WS (t_law_a_plain_3 (CF (n + 1))) [some (.ref t), some (.ref nr), some (.int i), some (.str w), some (.ref D), none] g' (RB Q)) →
      WS (t_law_a_plain_2 (CF (n + 1))) [some (.ref t), some (.ref nr), some (.int i), some (.str w), none, none] g (RB Q) := by
    intro m hit hm hend
    simp (decide := true) (implicitDefEqProofs := false) only [t_law_a_plain_2, Ex.ok_words, NX_RBt, NX_SKe, NX_LKt, Q_ret, Q_expr, Q_set, Q_sub, Q_if, Q_seq, Q_next, Q_ct, Q_bk, Q_retN, LK_nx, LK_ct, LK_bk, LK_rt, W_rng1, gName, SK_nx, SK_rt, SK_bk, SK_ct, RB_nx, RB_rt, W_var0, W_varS, W_c, W_op2, W_op1, W_nil, W_cons, W_fn, W_mt, W_call, W_tup, W_lst, W_dct0, W_pn, W_part, W_sl, W_isTy, W_tru, W_bl, W_and, W_or, W_not, W_eBl, W_if, W_eAnd, W_eOr, W_yes, O_ix_0, O_ix_1, O_ix_2, O_ix_3, O_ix_4, O_eq_ss, O_ne_ss, O_eq_ii, O_ne_ii, O_in_1, O_in_2, O_in_3, O_lt, O_le, O_gt, O_ge, O_add, O_sub, O_neg, O_int, O_intb, O_lent, O_min, O_max, O_tuplet, PV.bl.injEq, PV.int.injEq, PV.str.injEq, exists_eq_left', exists_eq_left, List.set_cons_zero, List.set_cons_succ, List.length_cons, List.length_nil, if_true, if_false, Bool.false_eq_true, decide_true, decide_false, ite_true, ite_false]
    have hmc : m * (10 * 4 ^ d) ≤ 30 * 4 ^ d := by
      have := Nat.mul_le_mul_right (10 * 4 ^ d) hm
      omega
    refine wp_parts (t := t) (nr := nr) (rs := rs) (names := names) (g0 := g0) (k := k) (fun e => ∀ body, Grown true body d e) (10 * 4 ^ d) m (by omega) hit ?_ ?_
    · intro g' k' Q' x h1 h2 J' hq
      simp (decide := true) (implicitDefEqProofs := false) only [wipeP, Ex.ok_words, NX_RBt, NX_SKe, NX_LKt, Q_ret, Q_expr, Q_set, Q_sub, Q_if, Q_seq, Q_next, Q_ct, Q_bk, Q_retN, LK_nx, LK_ct, LK_bk, LK_rt, W_rng1, gName, SK_nx, SK_rt, SK_bk, SK_ct, RB_nx, RB_rt, W_var0, W_varS, W_c, W_op2, W_op1, W_nil, W_cons, W_fn, W_mt, W_call, W_tup, W_lst, W_dct0, W_pn, W_part, W_sl, W_isTy, W_tru, W_bl, W_and, W_or, W_not, W_eBl, W_if, W_eAnd, W_eOr, W_yes, O_ix_0, O_ix_1, O_ix_2, O_ix_3, O_ix_4, O_eq_ss, O_ne_ss, O_eq_ii, O_ne_ii, O_in_1, O_in_2, O_in_3, O_lt, O_le, O_gt, O_ge, O_add, O_sub, O_neg, O_int, O_intb, O_lent, O_min, O_max, O_tuplet, PV.bl.injEq, PV.int.injEq, PV.str.injEq, exists_eq_left', exists_eq_left, List.set_cons_zero, List.set_cons_succ, List.length_cons, List.length_nil, if_true, if_false, Bool.false_eq_true, decide_true, decide_false, ite_true, ite_false]
      exact ih h1 (by omega) J' hq
    · intro es D k' g' h1 h2 h3 h4 h5 h6
      exact hend es h1 h2 k' D g' h3 (by omega) h5 h6
  simp only [List.mem_cons, List.not_mem_nil, or_false] at hw
  have two : ∀ es : List Ex, es.length = 2 → ∃ a b, es = [a, b] := fun es h => match es, h with | [a, b], _ => ⟨a, b, rfl⟩
  have one : ∀ es : List Ex, es.length = 1 → ∃ a, es = [a] := fun es h => match es, h with | [a], _ => ⟨a, rfl⟩
  have three : ∀ es : List Ex, es.length = 3 → ∃ a b c, es = [a, b, c] := fun es h => match es, h with | [a, b, c], _ => ⟨a, b, c, rfl⟩
  rcases hw with rfl | rfl | rfl | rfl | rfl
  · refine mk 2 ?_ (by omega) fun es hl he k' D g' h1 h2 hD J' => ?_
    · simp (decide := true) (implicitDefEqProofs := false) only [Ex.ok_words, NX_RBt, NX_SKe, NX_LKt, Q_ret, Q_expr, Q_set, Q_sub, Q_if, Q_seq, Q_next, Q_ct, Q_bk, Q_retN, LK_nx, LK_ct, LK_bk, LK_rt, W_rng1, gName, SK_nx, SK_rt, SK_bk, SK_ct, RB_nx, RB_rt, W_var0, W_varS, W_c, W_op2, W_op1, W_nil, W_cons, W_fn, W_mt, W_call, W_tup, W_lst, W_dct0, W_pn, W_part, W_sl, W_isTy, W_tru, W_bl, W_and, W_or, W_not, W_eBl, W_if, W_eAnd, W_eOr, W_yes, O_ix_0, O_ix_1, O_ix_2, O_ix_3, O_ix_4, O_eq_ss, O_ne_ss, O_eq_ii, O_ne_ii, O_in_1, O_in_2, O_in_3, O_lt, O_le, O_gt, O_ge, O_add, O_sub, O_neg, O_int, O_intb, O_lent, O_min, O_max, O_tuplet, PV.bl.injEq, PV.int.injEq, PV.str.injEq, exists_eq_left', exists_eq_left, List.set_cons_zero, List.set_cons_succ, List.length_cons, List.length_nil, if_true, if_false, Bool.false_eq_true, decide_true, decide_false, ite_true, ite_false, W_dct, W_pcons, W_pnil, keyOf_str, new_at, new_set, mergeD, putD, List.foldl_cons, List.foldl_nil, List.any_cons, List.any_nil, List.map_cons, List.map_nil, List.nil_append, List.cons_append, Bool.or_false, Bool.false_or, Sum.inr.injEq, look_cons, look_nil, Option.getD_some, Option.getD_none, dk_isD new_at, O_get new_at]
      exact ⟨by decide, rfl, J.app _⟩
    · obtain ⟨a, b, rfl⟩ := two es hl
      have ha := he a (by simp)
      have hb := he b (by simp)
      simp (decide := true) (implicitDefEqProofs := false) only [t_law_a_plain_3, t_law_a_plain_4, Ex.ok_words, NX_RBt, NX_SKe, NX_LKt, Q_ret, Q_expr, Q_set, Q_sub, Q_if, Q_seq, Q_next, Q_ct, Q_bk, Q_retN, LK_nx, LK_ct, LK_bk, LK_rt, W_rng1, gName, SK_nx, SK_rt, SK_bk, SK_ct, RB_nx, RB_rt, W_var0, W_varS, W_c, W_op2, W_op1, W_nil, W_cons, W_fn, W_mt, W_call, W_tup, W_lst, W_dct0, W_pn, W_part, W_sl, W_isTy, W_tru, W_bl, W_and, W_or, W_not, W_eBl, W_if, W_eAnd, W_eOr, W_yes, O_ix_0, O_ix_1, O_ix_2, O_ix_3, O_ix_4, O_eq_ss, O_ne_ss, O_eq_ii, O_ne_ii, O_in_1, O_in_2, O_in_3, O_lt, O_le, O_gt, O_ge, O_add, O_sub, O_neg, O_int, O_intb, O_lent, O_min, O_max, O_tuplet, PV.bl.injEq, PV.int.injEq, PV.str.injEq, exists_eq_left', exists_eq_left, List.set_cons_zero, List.set_cons_succ, List.length_cons, List.length_nil, if_true, if_false, Bool.false_eq_true, decide_true, decide_false, ite_true, ite_false, O_tuplel _ _ (seq_l _ hD), List.map_cons, List.map_nil]
      rw [O_addt _ _ _ _ (by simp [big])]
      exact q (.plus a b) k' g' (fun body => ⟨by simp [Ex.ok, (ha body).ok, (hb body).ok], by have := (ha body).dp; have := (hb body).dp; simp [Ex.dep]; omega⟩) h1 (by omega) J'
  · refine mk 2 ?_ (by omega) fun es hl he k' D g' h1 h2 hD J' => ?_
    · simp (decide := true) (implicitDefEqProofs := false) only [Ex.ok_words, NX_RBt, NX_SKe, NX_LKt, Q_ret, Q_expr, Q_set, Q_sub, Q_if, Q_seq, Q_next, Q_ct, Q_bk, Q_retN, LK_nx, LK_ct, LK_bk, LK_rt, W_rng1, gName, SK_nx, SK_rt, SK_bk, SK_ct, RB_nx, RB_rt, W_var0, W_varS, W_c, W_op2, W_op1, W_nil, W_cons, W_fn, W_mt, W_call, W_tup, W_lst, W_dct0, W_pn, W_part, W_sl, W_isTy, W_tru, W_bl, W_and, W_or, W_not, W_eBl, W_if, W_eAnd, W_eOr, W_yes, O_ix_0, O_ix_1, O_ix_2, O_ix_3, O_ix_4, O_eq_ss, O_ne_ss, O_eq_ii, O_ne_ii, O_in_1, O_in_2, O_in_3, O_lt, O_le, O_gt, O_ge, O_add, O_sub, O_neg, O_int, O_intb, O_lent, O_min, O_max, O_tuplet, PV.bl.injEq, PV.int.injEq, PV.str.injEq, exists_eq_left', exists_eq_left, List.set_cons_zero, List.set_cons_succ, List.length_cons, List.length_nil, if_true, if_false, Bool.false_eq_true, decide_true, decide_false, ite_true, ite_false, W_dct, W_pcons, W_pnil, keyOf_str, new_at, new_set, mergeD, putD, List.foldl_cons, List.foldl_nil, List.any_cons, List.any_nil, List.map_cons, List.map_nil, List.nil_append, List.cons_append, Bool.or_false, Bool.false_or, Sum.inr.injEq, look_cons, look_nil, Option.getD_some, Option.getD_none, dk_isD new_at, O_get new_at]
      exact ⟨by decide, rfl, J.app _⟩
    · obtain ⟨a, b, rfl⟩ := two es hl
      have ha := he a (by simp)
      have hb := he b (by simp)
      simp (decide := true) (implicitDefEqProofs := false) only [t_law_a_plain_3, t_law_a_plain_4, Ex.ok_words, NX_RBt, NX_SKe, NX_LKt, Q_ret, Q_expr, Q_set, Q_sub, Q_if, Q_seq, Q_next, Q_ct, Q_bk, Q_retN, LK_nx, LK_ct, LK_bk, LK_rt, W_rng1, gName, SK_nx, SK_rt, SK_bk, SK_ct, RB_nx, RB_rt, W_var0, W_varS, W_c, W_op2, W_op1, W_nil, W_cons, W_fn, W_mt, W_call, W_tup, W_lst, W_dct0, W_pn, W_part, W_sl, W_isTy, W_tru, W_bl, W_and, W_or, W_not, W_eBl, W_if, W_eAnd, W_eOr, W_yes, O_ix_0, O_ix_1, O_ix_2, O_ix_3, O_ix_4, O_eq_ss, O_ne_ss, O_eq_ii, O_ne_ii, O_in_1, O_in_2, O_in_3, O_lt, O_le, O_gt, O_ge, O_add, O_sub, O_neg, O_int, O_intb, O_lent, O_min, O_max, O_tuplet, PV.bl.injEq, PV.int.injEq, PV.str.injEq, exists_eq_left', exists_eq_left, List.set_cons_zero, List.set_cons_succ, List.length_cons, List.length_nil, if_true, if_false, Bool.false_eq_true, decide_true, decide_false, ite_true, ite_false, O_tuplel _ _ (seq_l _ hD), List.map_cons, List.map_nil]
      rw [O_addt _ _ _ _ (by simp [big])]
      exact q (.less a b) k' g' (fun body => ⟨by simp [Ex.ok, (ha body).ok, (hb body).ok], by have := (ha body).dp; have := (hb body).dp; simp [Ex.dep]; omega⟩) h1 (by omega) J'
  · refine mk 2 ?_ (by omega) fun es hl he k' D g' h1 h2 hD J' => ?_
    · simp (decide := true) (implicitDefEqProofs := false) only [Ex.ok_words, NX_RBt, NX_SKe, NX_LKt, Q_ret, Q_expr, Q_set, Q_sub, Q_if, Q_seq, Q_next, Q_ct, Q_bk, Q_retN, LK_nx, LK_ct, LK_bk, LK_rt, W_rng1, gName, SK_nx, SK_rt, SK_bk, SK_ct, RB_nx, RB_rt, W_var0, W_varS, W_c, W_op2, W_op1, W_nil, W_cons, W_fn, W_mt, W_call, W_tup, W_lst, W_dct0, W_pn, W_part, W_sl, W_isTy, W_tru, W_bl, W_and, W_or, W_not, W_eBl, W_if, W_eAnd, W_eOr, W_yes, O_ix_0, O_ix_1, O_ix_2, O_ix_3, O_ix_4, O_eq_ss, O_ne_ss, O_eq_ii, O_ne_ii, O_in_1, O_in_2, O_in_3, O_lt, O_le, O_gt, O_ge, O_add, O_sub, O_neg, O_int, O_intb, O_lent, O_min, O_max, O_tuplet, PV.bl.injEq, PV.int.injEq, PV.str.injEq, exists_eq_left', exists_eq_left, List.set_cons_zero, List.set_cons_succ, List.length_cons, List.length_nil, if_true, if_false, Bool.false_eq_true, decide_true, decide_false, ite_true, ite_false, W_dct, W_pcons, W_pnil, keyOf_str, new_at, new_set, mergeD, putD, List.foldl_cons, List.foldl_nil, List.any_cons, List.any_nil, List.map_cons, List.map_nil, List.nil_append, List.cons_append, Bool.or_false, Bool.false_or, Sum.inr.injEq, look_cons, look_nil, Option.getD_some, Option.getD_none, dk_isD new_at, O_get new_at]
      exact ⟨by decide, rfl, J.app _⟩
    · obtain ⟨a, b, rfl⟩ := two es hl
      have ha := he a (by simp)
      have hb := he b (by simp)
      simp (decide := true) (implicitDefEqProofs := false) only [t_law_a_plain_3, t_law_a_plain_4, Ex.ok_words, NX_RBt, NX_SKe, NX_LKt, Q_ret, Q_expr, Q_set, Q_sub, Q_if, Q_seq, Q_next, Q_ct, Q_bk, Q_retN, LK_nx, LK_ct, LK_bk, LK_rt, W_rng1, gName, SK_nx, SK_rt, SK_bk, SK_ct, RB_nx, RB_rt, W_var0, W_varS, W_c, W_op2, W_op1, W_nil, W_cons, W_fn, W_mt, W_call, W_tup, W_lst, W_dct0, W_pn, W_part, W_sl, W_isTy, W_tru, W_bl, W_and, W_or, W_not, W_eBl, W_if, W_eAnd, W_eOr, W_yes, O_ix_0, O_ix_1, O_ix_2, O_ix_3, O_ix_4, O_eq_ss, O_ne_ss, O_eq_ii, O_ne_ii, O_in_1, O_in_2, O_in_3, O_lt, O_le, O_gt, O_ge, O_add, O_sub, O_neg, O_int, O_intb, O_lent, O_min, O_max, O_tuplet, PV.bl.injEq, PV.int.injEq, PV.str.injEq, exists_eq_left', exists_eq_left, List.set_cons_zero, List.set_cons_succ, List.length_cons, List.length_nil, if_true, if_false, Bool.false_eq_true, decide_true, decide_false, ite_true, ite_false, J'.nm.len]
      have := J'.nm.ne
      refine w_pickJ n J' (by omega) (by omega) fun v g2 a2 b2 J2 F2 => ?_
      refine J2.nm.some_of a2 b2 fun x hx => ?_
      have hD2 : g2[D]? = _ := F2.get hD ?_
      · simp (decide := true) (implicitDefEqProofs := false) only [Ex.ok_words, NX_RBt, NX_SKe, NX_LKt, Q_ret, Q_expr, Q_set, Q_sub, Q_if, Q_seq, Q_next, Q_ct, Q_bk, Q_retN, LK_nx, LK_ct, LK_bk, LK_rt, W_rng1, gName, SK_nx, SK_rt, SK_bk, SK_ct, RB_nx, RB_rt, W_var0, W_varS, W_c, W_op2, W_op1, W_nil, W_cons, W_fn, W_mt, W_call, W_tup, W_lst, W_dct0, W_pn, W_part, W_sl, W_isTy, W_tru, W_bl, W_and, W_or, W_not, W_eBl, W_if, W_eAnd, W_eOr, W_yes, O_ix_0, O_ix_1, O_ix_2, O_ix_3, O_ix_4, O_eq_ss, O_ne_ss, O_eq_ii, O_ne_ii, O_in_1, O_in_2, O_in_3, O_lt, O_le, O_gt, O_ge, O_add, O_sub, O_neg, O_int, O_intb, O_lent, O_min, O_max, O_tuplet, PV.bl.injEq, PV.int.injEq, PV.str.injEq, exists_eq_left', exists_eq_left, List.set_cons_zero, List.set_cons_succ, List.length_cons, List.length_nil, if_true, if_false, Bool.false_eq_true, decide_true, decide_false, ite_true, ite_false, O_tuplel _ _ (seq_l _ hD2), List.map_cons, List.map_nil]
        rw [O_addt _ _ _ _ (by simp [big])]
        exact q (.lett x a b) _ _ (fun body => ⟨by simp [Ex.ok, hx, (ha body).ok, (hb body).ok], by have := (ha body).dp; have := (hb body).dp; simp [Ex.dep]; omega⟩) (by omega) (by omega) J2
      · intro hq
        have := List.mem_singleton.mp hq
        subst this
        obtain ⟨d, xs, h1, _⟩ := J'.tp
        rw [hD] at h1
        cases a <;> simp [Ex.pv] at h1
  · refine mk 1 ?_ (by omega) fun es hl he k' D g' h1 h2 hD J' => ?_
    · simp (decide := true) (implicitDefEqProofs := false) only [Ex.ok_words, NX_RBt, NX_SKe, NX_LKt, Q_ret, Q_expr, Q_set, Q_sub, Q_if, Q_seq, Q_next, Q_ct, Q_bk, Q_retN, LK_nx, LK_ct, LK_bk, LK_rt, W_rng1, gName, SK_nx, SK_rt, SK_bk, SK_ct, RB_nx, RB_rt, W_var0, W_varS, W_c, W_op2, W_op1, W_nil, W_cons, W_fn, W_mt, W_call, W_tup, W_lst, W_dct0, W_pn, W_part, W_sl, W_isTy, W_tru, W_bl, W_and, W_or, W_not, W_eBl, W_if, W_eAnd, W_eOr, W_yes, O_ix_0, O_ix_1, O_ix_2, O_ix_3, O_ix_4, O_eq_ss, O_ne_ss, O_eq_ii, O_ne_ii, O_in_1, O_in_2, O_in_3, O_lt, O_le, O_gt, O_ge, O_add, O_sub, O_neg, O_int, O_intb, O_lent, O_min, O_max, O_tuplet, PV.bl.injEq, PV.int.injEq, PV.str.injEq, exists_eq_left', exists_eq_left, List.set_cons_zero, List.set_cons_succ, List.length_cons, List.length_nil, if_true, if_false, Bool.false_eq_true, decide_true, decide_false, ite_true, ite_false, W_dct, W_pcons, W_pnil, keyOf_str, new_at, new_set, mergeD, putD, List.foldl_cons, List.foldl_nil, List.any_cons, List.any_nil, List.map_cons, List.map_nil, List.nil_append, List.cons_append, Bool.or_false, Bool.false_or, Sum.inr.injEq, look_cons, look_nil, Option.getD_some, Option.getD_none, dk_isD new_at, O_get new_at]
      exact ⟨by decide, rfl, J.app _⟩
    · obtain ⟨a, rfl⟩ := one es hl
      have ha := he a (by simp)
      simp (decide := true) (implicitDefEqProofs := false) only [t_law_a_plain_3, t_law_a_plain_4, Ex.ok_words, NX_RBt, NX_SKe, NX_LKt, Q_ret, Q_expr, Q_set, Q_sub, Q_if, Q_seq, Q_next, Q_ct, Q_bk, Q_retN, LK_nx, LK_ct, LK_bk, LK_rt, W_rng1, gName, SK_nx, SK_rt, SK_bk, SK_ct, RB_nx, RB_rt, W_var0, W_varS, W_c, W_op2, W_op1, W_nil, W_cons, W_fn, W_mt, W_call, W_tup, W_lst, W_dct0, W_pn, W_part, W_sl, W_isTy, W_tru, W_bl, W_and, W_or, W_not, W_eBl, W_if, W_eAnd, W_eOr, W_yes, O_ix_0, O_ix_1, O_ix_2, O_ix_3, O_ix_4, O_eq_ss, O_ne_ss, O_eq_ii, O_ne_ii, O_in_1, O_in_2, O_in_3, O_lt, O_le, O_gt, O_ge, O_add, O_sub, O_neg, O_int, O_intb, O_lent, O_min, O_max, O_tuplet, PV.bl.injEq, PV.int.injEq, PV.str.injEq, exists_eq_left', exists_eq_left, List.set_cons_zero, List.set_cons_succ, List.length_cons, List.length_nil, if_true, if_false, Bool.false_eq_true, decide_true, decide_false, ite_true, ite_false, O_tuplel _ _ (seq_l _ hD), List.map_cons, List.map_nil]
      rw [O_addt _ _ _ _ (by simp [big])]
      exact q (.tell a) k' g' (fun body => ⟨by simp [Ex.ok, (ha body).ok], by have := (ha body).dp; simp [Ex.dep]; omega⟩) h1 (by omega) J'
  · refine mk 3 ?_ (by omega) fun es hl he k' D g' h1 h2 hD J' => ?_
    · simp (decide := true) (implicitDefEqProofs := false) only [Ex.ok_words, NX_RBt, NX_SKe, NX_LKt, Q_ret, Q_expr, Q_set, Q_sub, Q_if, Q_seq, Q_next, Q_ct, Q_bk, Q_retN, LK_nx, LK_ct, LK_bk, LK_rt, W_rng1, gName, SK_nx, SK_rt, SK_bk, SK_ct, RB_nx, RB_rt, W_var0, W_varS, W_c, W_op2, W_op1, W_nil, W_cons, W_fn, W_mt, W_call, W_tup, W_lst, W_dct0, W_pn, W_part, W_sl, W_isTy, W_tru, W_bl, W_and, W_or, W_not, W_eBl, W_if, W_eAnd, W_eOr, W_yes, O_ix_0, O_ix_1, O_ix_2, O_ix_3, O_ix_4, O_eq_ss, O_ne_ss, O_eq_ii, O_ne_ii, O_in_1, O_in_2, O_in_3, O_lt, O_le, O_gt, O_ge, O_add, O_sub, O_neg, O_int, O_intb, O_lent, O_min, O_max, O_tuplet, PV.bl.injEq, PV.int.injEq, PV.str.injEq, exists_eq_left', exists_eq_left, List.set_cons_zero, List.set_cons_succ, List.length_cons, List.length_nil, if_true, if_false, Bool.false_eq_true, decide_true, decide_false, ite_true, ite_false, W_dct, W_pcons, W_pnil, keyOf_str, new_at, new_set, mergeD, putD, List.foldl_cons, List.foldl_nil, List.any_cons, List.any_nil, List.map_cons, List.map_nil, List.nil_append, List.cons_append, Bool.or_false, Bool.false_or, Sum.inr.injEq, look_cons, look_nil, Option.getD_some, Option.getD_none, dk_isD new_at, O_get new_at]
      exact ⟨by decide, rfl, J.app _⟩
    · obtain ⟨a, b, c, rfl⟩ := three es hl
      have ha := he a (by simp)
      have hb := he b (by simp)
      have hc := he c (by simp)
      simp (decide := true) (implicitDefEqProofs := false) only [t_law_a_plain_3, t_law_a_plain_4, Ex.ok_words, NX_RBt, NX_SKe, NX_LKt, Q_ret, Q_expr, Q_set, Q_sub, Q_if, Q_seq, Q_next, Q_ct, Q_bk, Q_retN, LK_nx, LK_ct, LK_bk, LK_rt, W_rng1, gName, SK_nx, SK_rt, SK_bk, SK_ct, RB_nx, RB_rt, W_var0, W_varS, W_c, W_op2, W_op1, W_nil, W_cons, W_fn, W_mt, W_call, W_tup, W_lst, W_dct0, W_pn, W_part, W_sl, W_isTy, W_tru, W_bl, W_and, W_or, W_not, W_eBl, W_if, W_eAnd, W_eOr, W_yes, O_ix_0, O_ix_1, O_ix_2, O_ix_3, O_ix_4, O_eq_ss, O_ne_ss, O_eq_ii, O_ne_ii, O_in_1, O_in_2, O_in_3, O_lt, O_le, O_gt, O_ge, O_add, O_sub, O_neg, O_int, O_intb, O_lent, O_min, O_max, O_tuplet, PV.bl.injEq, PV.int.injEq, PV.str.injEq, exists_eq_left', exists_eq_left, List.set_cons_zero, List.set_cons_succ, List.length_cons, List.length_nil, if_true, if_false, Bool.false_eq_true, decide_true, decide_false, ite_true, ite_false, O_tuplel _ _ (seq_l _ hD), List.map_cons, List.map_nil]
      rw [O_addt _ _ _ _ (by simp [big])]
      exact q (.cond a b c) k' g' (fun body => ⟨by simp [Ex.ok, (ha body).ok, (hb body).ok, (hc body).ok], by have := (ha body).dp; have := (hb body).dp; have := (hc body).dp; simp [Ex.dep]; omega⟩) h1 (by omega) J'
theorem w_plain_leaf (n : Nat) {t nr : Nat} {rs : List Nat} {names : List Str} {g0 g : G} {k : Nat} {σ : Sl} {Q : PV → G → Prop} (J : GJ t nr rs names g0 k g) (hk : k + 10 < 100000000000)
    (q : ∀ e k' g', (∀ body, Grown true body 1 e) → k ≤ k' → k' ≤ k + 4 → GJ t nr rs names g0 k' g' → Q e.pv g') :
    W (eOp2 opIx (eLst (eCons (eTup (eCons (eC (.str "num")) (eCons (eOp2 opSub (eCall (CF (n + 1)) ("", "_law_pick") (eCons (eVar 0) (eCons (eC (.int 9)) eNil))) (eC (.int 4))) eNil))) (eCons (eTup (eCons (eC (.str "name")) (eCons (eOp2 opIx (eVar 1) (eCall (CF (n + 1)) ("", "_law_pick") (eCons (eVar 0) (eCons (eFn fLen (eCons (eVar 1) eNil)) eNil)))) eNil))) eNil))) (eCall (CF (n + 1)) ("", "_law_pick") (eCons (eVar 0) (eCons (eC (.int 2)) eNil)))) (some (.ref t) :: some (.ref nr) :: σ) g Q := by
  simp (decide := true) (implicitDefEqProofs := false) only [Ex.ok_words, NX_RBt, NX_SKe, NX_LKt, Q_ret, Q_expr, Q_set, Q_sub, Q_if, Q_seq, Q_next, Q_ct, Q_bk, Q_retN, LK_nx, LK_ct, LK_bk, LK_rt, W_rng1, gName, SK_nx, SK_rt, SK_bk, SK_ct, RB_nx, RB_rt, W_var0, W_varS, W_c, W_op2, W_op1, W_nil, W_cons, W_fn, W_mt, W_call, W_tup, W_lst, W_dct0, W_pn, W_part, W_sl, W_isTy, W_tru, W_bl, W_and, W_or, W_not, W_eBl, W_if, W_eAnd, W_eOr, W_yes, O_ix_0, O_ix_1, O_ix_2, O_ix_3, O_ix_4, O_eq_ss, O_ne_ss, O_eq_ii, O_ne_ii, O_in_1, O_in_2, O_in_3, O_lt, O_le, O_gt, O_ge, O_add, O_sub, O_neg, O_int, O_intb, O_lent, O_min, O_max, O_tuplet, PV.bl.injEq, PV.int.injEq, PV.str.injEq, exists_eq_left', exists_eq_left, List.set_cons_zero, List.set_cons_succ, List.length_cons, List.length_nil, if_true, if_false, Bool.false_eq_true, decide_true, decide_false, ite_true, ite_false]
  refine w_pickJ n J (by omega) (by decide) fun v1 g1 _ _ J1 F1 => ?_
  simp (decide := true) (implicitDefEqProofs := false) only [Ex.ok_words, NX_RBt, NX_SKe, NX_LKt, Q_ret, Q_expr, Q_set, Q_sub, Q_if, Q_seq, Q_next, Q_ct, Q_bk, Q_retN, LK_nx, LK_ct, LK_bk, LK_rt, W_rng1, gName, SK_nx, SK_rt, SK_bk, SK_ct, RB_nx, RB_rt, W_var0, W_varS, W_c, W_op2, W_op1, W_nil, W_cons, W_fn, W_mt, W_call, W_tup, W_lst, W_dct0, W_pn, W_part, W_sl, W_isTy, W_tru, W_bl, W_and, W_or, W_not, W_eBl, W_if, W_eAnd, W_eOr, W_yes, O_ix_0, O_ix_1, O_ix_2, O_ix_3, O_ix_4, O_eq_ss, O_ne_ss, O_eq_ii, O_ne_ii, O_in_1, O_in_2, O_in_3, O_lt, O_le, O_gt, O_ge, O_add, O_sub, O_neg, O_int, O_intb, O_lent, O_min, O_max, O_tuplet, PV.bl.injEq, PV.int.injEq, PV.str.injEq, exists_eq_left', exists_eq_left, List.set_cons_zero, List.set_cons_succ, List.length_cons, List.length_nil, if_true, if_false, Bool.false_eq_true, decide_true, decide_false, ite_true, ite_false, J1.nm.len]
  have := J1.nm.ne
  refine w_pickJ n J1 (by omega) (by omega) fun v2 g2 a2 b2 J2 F2 => ?_
  refine J2.nm.some_of a2 b2 fun x hx => ?_
  refine w_pickJ n (J2.app _) (by omega) (by decide) fun v3 g3 a3 b3 J3 F3 => ?_
  have at_ := F3.get (new_at (g := g2)) (by have := J2.lt; have := J2.fr.le; simp; omega)
  refine O_some_of at_ a3 (by simpa using b3) fun y hy => ?_
  simp only [List.mem_cons, List.not_mem_nil, or_false] at hy
  rcases hy with rfl | rfl
  · exact q (.num _) _ _ (fun body => ⟨rfl, Nat.le_refl _⟩) (by omega) (by omega) J3
  · exact q (.name x) _ _ (fun body => ⟨hx, Nat.le_refl _⟩) (by omega) (by omega) J3
theorem w_plain : ∀ (d n : Nat) {i : Int} {t nr : Nat} {rs : List Nat} {names : List Str} {g : G} {k : Nat} {Q : PV → G → Prop}, i = (d : Int) → 1 ≤ d → d ≤ n + 1 → GJ t nr rs names g k g → k + 11 * 4 ^ d < 100000000000 →
    (∀ e k' g', (∀ body, Grown true body d e) → k ≤ k' → k' ≤ k + 10 * 4 ^ d → GJ t nr rs names g k' g' → Q e.pv g') → WC (CF (n + 2)) ("", "_law_a_plain") [.ref t, .ref nr, .int i] g Q
  | 0, n, i, t, nr, rs, names, g, k, Q, hi, h1, hn, J, hk, q => by omega
  | d + 1, n, i, t, nr, rs, names, g, k, Q, hi, h1, hn, J, hk, q => by
    have h4 : 10 * 4 ^ (d + 1) = 40 * 4 ^ d := by rw [Nat.pow_succ]; omega
    have hp : 1 ≤ 4 ^ d := Nat.one_le_pow _ _ (by decide)
    have h5 : 11 * 4 ^ (d + 1) = 44 * 4 ^ d := by rw [Nat.pow_succ]; omega
    rw [h4] at q
    rw [h5] at hk
    refine wc_body (c_law_a_plain (n + 1) _ _ _ g) ?_
    rw [u_law_a_plain]
    simp (decide := true) (implicitDefEqProofs := false) only [t_law_a_plain_0, Ex.ok_words, NX_RBt, NX_SKe, NX_LKt, Q_ret, Q_expr, Q_set, Q_sub, Q_if, Q_seq, Q_next, Q_ct, Q_bk, Q_retN, LK_nx, LK_ct, LK_bk, LK_rt, W_rng1, gName, SK_nx, SK_rt, SK_bk, SK_ct, RB_nx, RB_rt, W_var0, W_varS, W_c, W_op2, W_op1, W_nil, W_cons, W_fn, W_mt, W_call, W_tup, W_lst, W_dct0, W_pn, W_part, W_sl, W_isTy, W_tru, W_bl, W_and, W_or, W_not, W_eBl, W_if, W_eAnd, W_eOr, W_yes, O_ix_0, O_ix_1, O_ix_2, O_ix_3, O_ix_4, O_eq_ss, O_ne_ss, O_eq_ii, O_ne_ii, O_in_1, O_in_2, O_in_3, O_lt, O_le, O_gt, O_ge, O_add, O_sub, O_neg, O_int, O_intb, O_lent, O_min, O_max, O_tuplet, PV.bl.injEq, PV.int.injEq, PV.str.injEq, exists_eq_left', exists_eq_left, List.set_cons_zero, List.set_cons_succ, List.length_cons, List.length_nil, if_true, if_false, Bool.false_eq_true, decide_true, decide_false, ite_true, ite_false]
    refine w_pickJ n (J.app _) (by omega) (by decide) fun v g1 a1 b1 J1 F1 => ?_
    have at_ := F1.get (new_at (g := g)) (by have := J.lt; simp; omega)
    refine O_some_of at_ a1 (by simpa using b1) fun x hx => ?_
    have hx' : ∃ w, x = .str w ∧ (w ∈ (["num", "name"] : List Str) ∨ w ∈ (["plus", "less", "let", "tell", "if"] : List Str)) := by
      simp only [List.mem_cons, List.not_mem_nil, or_false] at hx
      rcases hx with rfl | rfl | rfl | rfl | rfl | rfl | rfl | rfl <;> exact ⟨_, rfl, by decide⟩
    obtain ⟨w, rfl, hw⟩ := hx'
    have lf : ∀ D : RS → Prop, (∀ v g', RB Q (.rt v g') → D (.rt v g')) → W (eOp2 opIx (eLst (eCons (eTup (eCons (eC (.str "num")) (eCons (eOp2 opSub (eCall (CF (n + 1)) ("", "_law_pick") (eCons (eVar 0) (eCons (eC (.int 9)) eNil))) (eC (.int 4))) eNil))) (eCons (eTup (eCons (eC (.str "name")) (eCons (eOp2 opIx (eVar 1) (eCall (CF (n + 1)) ("", "_law_pick") (eCons (eVar 0) (eCons (eFn fLen (eCons (eVar 1) eNil)) eNil)))) eNil))) eNil))) (eCall (CF (n + 1)) ("", "_law_pick") (eCons (eVar 0) (eCons (eC (.int 2)) eNil)))) [some (.ref t), some (.ref nr), some (.int i), some (.str w), none, none] g1 fun v g' => D (.rt v g') := fun D hD => by
      refine w_plain_leaf n J1 (by omega) fun e k' g' he h2 h3 J' => hD _ _ ?_
      exact q e k' g' (fun body => (he body).mono (by omega)) (by omega) (by omega) J'
    have rest : w ∈ (["plus", "less", "let", "tell", "if"] : List Str) → 1 ≤ d → WS (t_law_a_plain_2 (CF (n + 1))) [some (.ref t), some (.ref nr), some (.int i), some (.str w), none, none] g1 (RB Q) := fun hw hd => by
      obtain ⟨n', rfl⟩ : ∃ n', n = n' + 1 := ⟨n - 1, by omega⟩
      refine w_plain_tail (n' + 1) J1 (by omega) hw ?_ ?_ (d := d)
      · intro g k' Q h1 h2 J' hq
        exact w_plain d n' (by omega) hd (by omega) J' (by omega) hq
      · intro e k' g' he h2 h3 J'
        exact q e k' g' he (by omega) (by omega) J'
    simp (decide := true) (implicitDefEqProofs := false) only [t_law_a_plain_1, Q_seq, Q_if, NX_RBt, NX_SKe, SK_nx, Q_set, gName, List.set_cons_zero, List.set_cons_succ, W_or, W_bl, W_op2, W_var0, W_varS, W_c, O_lt, W_tup, W_cons, W_nil, O_in_2, exists_eq_left', PV.bl.injEq, if_true, List.length_cons, List.length_nil]
    by_cases hd : d = 0
    · subst hd
      have : i < 2 := by omega
      simp only [this, decide_true, if_true]
      simp (decide := true) (implicitDefEqProofs := false) only [Q_seq, Q_ret, NX_RBt, NX_SKe, SK_rt, RB_rt]
      exact lf (RB Q) fun v g' h => h
    · have : ¬ i < 2 := by omega
      rcases hw with hw | hw
      · have e : (decide ((Str.ofString "num") = w) || decide ((Str.ofString "name") = w)) = true := by
          simp only [List.mem_cons, List.not_mem_nil, or_false] at hw
          rcases hw with rfl | rfl <;> decide
        simp only [this, decide_false, if_false, Bool.false_eq_true, e, if_true]
        simp (decide := true) (implicitDefEqProofs := false) only [Q_seq, Q_ret, NX_RBt, NX_SKe, SK_rt, RB_rt]
        exact lf (RB Q) fun v g' h => h
      · have e : (decide ((Str.ofString "num") = w) || decide ((Str.ofString "name") = w)) = false := by
          simp only [List.mem_cons, List.not_mem_nil, or_false] at hw
          rcases hw with rfl | rfl | rfl | rfl | rfl <;> decide
        simp only [this, decide_false, if_false, Bool.false_eq_true, e]
        simp (decide := true) (implicitDefEqProofs := false) only [Ex.ok_words, NX_RBt, NX_SKe, NX_LKt, Q_ret, Q_expr, Q_set, Q_sub, Q_if, Q_seq, Q_next, Q_ct, Q_bk, Q_retN, LK_nx, LK_ct, LK_bk, LK_rt, W_rng1, gName, SK_nx, SK_rt, SK_bk, SK_ct, RB_nx, RB_rt, W_var0, W_varS, W_c, W_op2, W_op1, W_nil, W_cons, W_fn, W_mt, W_call, W_tup, W_lst, W_dct0, W_pn, W_part, W_sl, W_isTy, W_tru, W_bl, W_and, W_or, W_not, W_eBl, W_if, W_eAnd, W_eOr, W_yes, O_ix_0, O_ix_1, O_ix_2, O_ix_3, O_ix_4, O_eq_ss, O_ne_ss, O_eq_ii, O_ne_ii, O_in_1, O_in_2, O_in_3, O_lt, O_le, O_gt, O_ge, O_add, O_sub, O_neg, O_int, O_intb, O_lent, O_min, O_max, O_tuplet, PV.bl.injEq, PV.int.injEq, PV.str.injEq, exists_eq_left', exists_eq_left, List.set_cons_zero, List.set_cons_succ, List.length_cons, List.length_nil, if_true, if_false, Bool.false_eq_true, decide_true, decide_false, ite_true, ite_false]
        exact rest hw (by omega)
end K19
end

section
set_option maxRecDepth 100000
set_option maxHeartbeats 400000
/-! the generator of programs: grown -/
namespace K19
open PySem Vm

theorem no_tape {t nr : Nat} {rs : List Nat} {names : List Str} {g0 g : G} {k D : Nat} {es : List Ex} (J : GJ t nr rs names g0 k g) (h : g[D]? = some (.lst (es.map Ex.pv))) : D ≠ t := by
  intro e
  subst e
  obtain ⟨d, xs, h1, _⟩ := J.tp
  rw [h] at h1
  cases es with
  | nil => simp at h1
  | cons a r => cases a <;> simp [Ex.pv] at h1
theorem w_grown_14 (n : Nat) {t nr rr : Nat} {rs : List Nat} {names : List Str} {g0 g : G} {k d : Nat} {body i : Int} {w kd wy : Str} {x5 x9 : Option PV} {es : List Ex} {Q : PV → G → Prop} (J : GJ t nr rs names g0 k g) (hk : k + 10 < 100000000000)
    (hw : (w ∈ (["plus", "less", "let", "look", "way"] : List Str) ∧ es.length = 2) ∨ (w = "if" ∧ es.length = 3) ∨ (w ∈ (["tell", "call", "fault", "take", "anew"] : List Str) ∧ es.length = 1)) (hcall : w = "call" → 0 < body) (hkd : nameOk kd = true) (hon : w = "way" ∨ w = "anew" → kd ≠ "on") (hwy : nameOk wy = true)
    (he : ∀ e ∈ es, Grown false body d e)
    (q : ∀ e k' g', Grown false body (d + 1) e → k ≤ k' → k' ≤ k + 1 → GJ t nr rs names g0 k' g' → Q e.pv g') :
    WS (t_law_grown_14 (CF (n + 1))) [some (.ref t), some (.ref nr), some (.int body), some (.int i), some (.ref rr), x5, some (.str w), some (.str kd), some (.str wy), x9, some (.tup (es.map Ex.pv)), none, none, none] g (RB Q) := by
  have two : es.length = 2 → ∃ a b, es = [a, b] := fun h => match es, h with | [a, b], _ => ⟨a, b, rfl⟩
  have one : es.length = 1 → ∃ a, es = [a] := fun h => match es, h with | [a], _ => ⟨a, rfl⟩
  have three : es.length = 3 → ∃ a b c, es = [a, b, c] := fun h => match es, h with | [a, b, c], _ => ⟨a, b, c, rfl⟩
  have N := (J.app [GO.dk []]).nm
  have h0 := N.hd_ok
  have h9 := N.last_ok
  have fin : ∀ {e : Ex}, Grown false body (d + 1) e → Q e.pv (g ++ [GO.dk [(.inr "let", .tup [.str kd]), (.inr "fault", .tup [.str kd]), (.inr "take", .tup [.str wy]), (.inr "look", .tup [.str kd, .str (names.head?.getD "a")]), (.inr "way", .tup [.str kd, .str (names.getLast?.getD "a")])]]) := fun h => q _ k _ h (by omega) (by omega) (J.app _)
  rcases hw with ⟨hw, hl⟩ | ⟨rfl, hl⟩ | ⟨hw, hl⟩
  · obtain ⟨a, b, rfl⟩ := two hl
    have ha := he a (by simp)
    have hb := he b (by simp)
    simp only [List.mem_cons, List.not_mem_nil, or_false] at hw
    have fin2 : ∀ {e : Ex}, e.ok body false = true → e.dep = 1 + max a.dep b.dep → Grown false body (d + 1) e := fun h1 h2 => ⟨h1, by have := ha.dp; have := hb.dp; omega⟩
    rcases hw with rfl | rfl | rfl | rfl | rfl <;> simp (decide := true) (implicitDefEqProofs := false) only [t_law_grown_14, t_law_grown_15, t_law_grown_16, t_law_grown_17, Ex.ok_words, NX_RBt, NX_SKe, NX_LKt, Q_ret, Q_expr, Q_set, Q_sub, Q_if, Q_seq, Q_next, Q_ct, Q_bk, Q_retN, LK_nx, LK_ct, LK_bk, LK_rt, W_rng1, gName, SK_nx, SK_rt, SK_bk, SK_ct, RB_nx, RB_rt, W_var0, W_varS, W_c, W_op2, W_op1, W_nil, W_cons, W_fn, W_mt, W_call, W_tup, W_lst, W_dct0, W_pn, W_part, W_sl, W_isTy, W_tru, W_bl, W_and, W_or, W_not, W_eBl, W_if, W_eAnd, W_eOr, W_yes, O_ix_0, O_ix_1, O_ix_2, O_ix_3, O_ix_4, O_eq_ss, O_ne_ss, O_eq_ii, O_ne_ii, O_in_1, O_in_2, O_in_3, O_lt, O_le, O_gt, O_ge, O_add, O_sub, O_neg, O_int, O_intb, O_lent, O_min, O_max, O_tuplet, PV.bl.injEq, PV.int.injEq, PV.str.injEq, exists_eq_left', exists_eq_left, List.set_cons_zero, List.set_cons_succ, List.length_cons, List.length_nil, if_true, if_false, Bool.false_eq_true, decide_true, decide_false, ite_true, ite_false, W_dct, W_pcons, W_pnil, keyOf_str, new_at, new_set, mergeD, putD, List.foldl_cons, List.foldl_nil, List.any_cons, List.any_nil, List.map_cons, List.map_nil, List.nil_append, List.cons_append, Bool.or_false, Bool.false_or, Sum.inr.injEq, look_cons, look_nil, Option.getD_some, Option.getD_none, dk_isD new_at, O_get new_at, N.hd, N.last] <;> (try rw [O_addt _ _ _ _ (by simp [big])]) <;> (try rw [O_addt _ _ _ _ (by simp [big])])
    · exact fin (e := .plus a b) (fin2 (by simp [Ex.ok, ha.ok, hb.ok]) rfl)
    · exact fin (e := .less a b) (fin2 (by simp [Ex.ok, ha.ok, hb.ok]) rfl)
    · exact fin (e := .lett kd a b) (fin2 (by simp [Ex.ok, ha.ok, hb.ok, hkd]) rfl)
    · exact fin (e := .look kd _ a b) (fin2 (by simp [Ex.ok, ha.ok, hb.ok, hkd, h0]) rfl)
    · exact fin (e := .way kd _ a b) (fin2 (by simp [Ex.ok, ha.ok, hb.ok, hkd, h9, hon]) rfl)
  · obtain ⟨a, b, c, rfl⟩ := three hl
    have ha := he a (by simp)
    have hb := he b (by simp)
    have hc := he c (by simp)
    simp (decide := true) (implicitDefEqProofs := false) only [t_law_grown_14, t_law_grown_15, t_law_grown_16, t_law_grown_17, Ex.ok_words, NX_RBt, NX_SKe, NX_LKt, Q_ret, Q_expr, Q_set, Q_sub, Q_if, Q_seq, Q_next, Q_ct, Q_bk, Q_retN, LK_nx, LK_ct, LK_bk, LK_rt, W_rng1, gName, SK_nx, SK_rt, SK_bk, SK_ct, RB_nx, RB_rt, W_var0, W_varS, W_c, W_op2, W_op1, W_nil, W_cons, W_fn, W_mt, W_call, W_tup, W_lst, W_dct0, W_pn, W_part, W_sl, W_isTy, W_tru, W_bl, W_and, W_or, W_not, W_eBl, W_if, W_eAnd, W_eOr, W_yes, O_ix_0, O_ix_1, O_ix_2, O_ix_3, O_ix_4, O_eq_ss, O_ne_ss, O_eq_ii, O_ne_ii, O_in_1, O_in_2, O_in_3, O_lt, O_le, O_gt, O_ge, O_add, O_sub, O_neg, O_int, O_intb, O_lent, O_min, O_max, O_tuplet, PV.bl.injEq, PV.int.injEq, PV.str.injEq, exists_eq_left', exists_eq_left, List.set_cons_zero, List.set_cons_succ, List.length_cons, List.length_nil, if_true, if_false, Bool.false_eq_true, decide_true, decide_false, ite_true, ite_false, W_dct, W_pcons, W_pnil, keyOf_str, new_at, new_set, mergeD, putD, List.foldl_cons, List.foldl_nil, List.any_cons, List.any_nil, List.map_cons, List.map_nil, List.nil_append, List.cons_append, Bool.or_false, Bool.false_or, Sum.inr.injEq, look_cons, look_nil, Option.getD_some, Option.getD_none, dk_isD new_at, O_get new_at, N.hd, N.last]
    rw [O_addt _ _ _ _ (by simp [big])]
    rw [O_addt _ _ _ _ (by simp [big])]
    exact fin (e := .cond a b c) ⟨by simp [Ex.ok, ha.ok, hb.ok, hc.ok], by have := ha.dp; have := hb.dp; have := hc.dp; simp only [Ex.dep]; omega⟩
  · obtain ⟨a, rfl⟩ := one hl
    have ha := he a (by simp)
    have fin2 : ∀ {e : Ex}, e.ok body false = true → e.dep = 1 + a.dep → Grown false body (d + 1) e := fun h1 h2 => ⟨h1, by have := ha.dp; omega⟩
    simp only [List.mem_cons, List.not_mem_nil, or_false] at hw
    rcases hw with rfl | rfl | rfl | rfl | rfl <;> simp (decide := true) (implicitDefEqProofs := false) only [t_law_grown_14, t_law_grown_15, t_law_grown_16, t_law_grown_17, Ex.ok_words, NX_RBt, NX_SKe, NX_LKt, Q_ret, Q_expr, Q_set, Q_sub, Q_if, Q_seq, Q_next, Q_ct, Q_bk, Q_retN, LK_nx, LK_ct, LK_bk, LK_rt, W_rng1, gName, SK_nx, SK_rt, SK_bk, SK_ct, RB_nx, RB_rt, W_var0, W_varS, W_c, W_op2, W_op1, W_nil, W_cons, W_fn, W_mt, W_call, W_tup, W_lst, W_dct0, W_pn, W_part, W_sl, W_isTy, W_tru, W_bl, W_and, W_or, W_not, W_eBl, W_if, W_eAnd, W_eOr, W_yes, O_ix_0, O_ix_1, O_ix_2, O_ix_3, O_ix_4, O_eq_ss, O_ne_ss, O_eq_ii, O_ne_ii, O_in_1, O_in_2, O_in_3, O_lt, O_le, O_gt, O_ge, O_add, O_sub, O_neg, O_int, O_intb, O_lent, O_min, O_max, O_tuplet, PV.bl.injEq, PV.int.injEq, PV.str.injEq, exists_eq_left', exists_eq_left, List.set_cons_zero, List.set_cons_succ, List.length_cons, List.length_nil, if_true, if_false, Bool.false_eq_true, decide_true, decide_false, ite_true, ite_false, W_dct, W_pcons, W_pnil, keyOf_str, new_at, new_set, mergeD, putD, List.foldl_cons, List.foldl_nil, List.any_cons, List.any_nil, List.map_cons, List.map_nil, List.nil_append, List.cons_append, Bool.or_false, Bool.false_or, Sum.inr.injEq, look_cons, look_nil, Option.getD_some, Option.getD_none, dk_isD new_at, O_get new_at, N.hd, N.last]
    · rw [O_addt _ _ _ _ (by simp [big])]
      rw [O_addt _ _ _ _ (by simp [big])]
      exact fin (e := .tell a) (fin2 (by simp [Ex.ok, ha.ok]) rfl)
    · refine w_pickJ n (J.app _) (by omega) (hcall rfl) fun v g2 a2 b2 J2 F2 => ?_
      rw [O_addt _ _ _ _ (by simp [big])]
      exact q (.call v a) _ _ (fin2 (by simp [Ex.ok, ha.ok, a2, b2]) rfl) (by omega) (by omega) J2
    · rw [O_addt _ _ _ _ (by simp [big])]
      rw [O_addt _ _ _ _ (by simp [big])]
      exact fin (e := .fault kd a) (fin2 (by simp [Ex.ok, ha.ok, hkd]) rfl)
    · rw [O_addt _ _ _ _ (by simp [big])]
      rw [O_addt _ _ _ _ (by simp [big])]
      exact fin (e := .take wy a) (fin2 (by simp [Ex.ok, ha.ok, hwy]) rfl)
    · refine w_pickJ n (J.app _) (by omega) (by decide) fun v g2 a2 b2 J2 F2 => ?_
      rw [O_addt _ _ _ _ (by simp [big])]
      exact q (.anew kd v a) _ _ (fin2 (by simp [Ex.ok, ha.ok, hkd, hon, a2]; omega) rfl) (by omega) (by omega) J2
theorem w_grown_12 (n : Nat) {t nr rr : Nat} {rs : List Nat} {names : List Str} {g0 g : G} {k d C : Nat} {body i : Int} {w kd wy : Str} {x5 : Option PV} {Q : PV → G → Prop} (J : GJ t nr rs names g0 k g) (hk : k + 4 * C + 10 < 100000000000)
    (hw : w ∈ (["plus", "less", "let", "look", "way", "if", "tell", "call", "fault", "take", "anew"] : List Str)) (hcall : w = "call" → 0 < body) (hkd : nameOk kd = true) (hon : w = "way" ∨ w = "anew" → kd ≠ "on") (hwy : nameOk wy = true)
    (ih : ∀ {g : G} {k' : Nat} {Q : PV → G → Prop}, k ≤ k' → k' ≤ k + 3 * C → GJ t nr rs names g k' g → (∀ e k2 g2, Grown false body d e → k' ≤ k2 → k2 ≤ k' + C → GJ t nr rs names g k2 g2 → Q e.pv g2) → WC (CF (n + 1)) ("", "_law_grown") [.ref t, .ref nr, .int body, .int (i - 1), .ref rr] g Q)
    (q : ∀ e k' g', Grown false body (d + 1) e → k ≤ k' → k' ≤ k + 3 * C + 1 → GJ t nr rs names g0 k' g' → Q e.pv g') :
    WS (t_law_grown_12 (CF (n + 1))) [some (.ref t), some (.ref nr), some (.int body), some (.int i), some (.ref rr), x5, some (.str w), some (.str kd), some (.str wy), none, none, none, none, none] g (RB Q) := by
  have mk : ∀ (m : Nat) (mi : Int) (g : G), mi = (m : Int) → GJ t nr rs names g0 k g → m ≤ 3 → ((w ∈ (["plus", "less", "let", "look", "way"] : List Str) ∧ m = 2) ∨ (w = "if" ∧ m = 3) ∨ (w ∈ (["tell", "call", "fault", "take", "anew"] : List Str) ∧ m = 1)) →
      WS (t_law_grown_13 (CF (n + 1))) [some (.ref t), some (.ref nr), some (.int body), some (.int i), some (.ref rr), x5, some (.str w), some (.str kd), some (.str wy), some (.int mi), none, none, none, none] g (RB Q) := by
    intro m mi g hmi J hm hwm
    subst hmi
    simp (decide := true) (implicitDefEqProofs := false) only [t_law_grown_13, Ex.ok_words, NX_RBt, NX_SKe, NX_LKt, Q_ret, Q_expr, Q_set, Q_sub, Q_if, Q_seq, Q_next, Q_ct, Q_bk, Q_retN, LK_nx, LK_ct, LK_bk, LK_rt, W_rng1, gName, SK_nx, SK_rt, SK_bk, SK_ct, RB_nx, RB_rt, W_var0, W_varS, W_c, W_op2, W_op1, W_nil, W_cons, W_fn, W_mt, W_call, W_tup, W_lst, W_dct0, W_pn, W_part, W_sl, W_isTy, W_tru, W_bl, W_and, W_or, W_not, W_eBl, W_if, W_eAnd, W_eOr, W_yes, O_ix_0, O_ix_1, O_ix_2, O_ix_3, O_ix_4, O_eq_ss, O_ne_ss, O_eq_ii, O_ne_ii, O_in_1, O_in_2, O_in_3, O_lt, O_le, O_gt, O_ge, O_add, O_sub, O_neg, O_int, O_intb, O_lent, O_min, O_max, O_tuplet, PV.bl.injEq, PV.int.injEq, PV.str.injEq, exists_eq_left', exists_eq_left, List.set_cons_zero, List.set_cons_succ, List.length_cons, List.length_nil, if_true, if_false, Bool.false_eq_true, decide_true, decide_false, ite_true, ite_false]
    have hmc : m * C ≤ 3 * C := Nat.mul_le_mul_right _ hm
    generalize hσ : [some (PV.ref t), some (PV.ref nr), some (PV.int body), some (PV.int i), some (PV.ref rr), x5, some (PV.str w), some (PV.str kd), some (PV.str wy), some (PV.int m), none, none, none, none] = σ0
    refine wp_parts (t := t) (nr := nr) (rs := rs) (names := names) (g0 := g0) (k := k) (fun e => Grown false body d e) C m (by omega) ?_ ?_ ?_
    · subst hσ
      simp (decide := true) (implicitDefEqProofs := false) only [Ex.ok_words, NX_RBt, NX_SKe, NX_LKt, Q_ret, Q_expr, Q_set, Q_sub, Q_if, Q_seq, Q_next, Q_ct, Q_bk, Q_retN, LK_nx, LK_ct, LK_bk, LK_rt, W_rng1, gName, SK_nx, SK_rt, SK_bk, SK_ct, RB_nx, RB_rt, W_var0, W_varS, W_c, W_op2, W_op1, W_nil, W_cons, W_fn, W_mt, W_call, W_tup, W_lst, W_dct0, W_pn, W_part, W_sl, W_isTy, W_tru, W_bl, W_and, W_or, W_not, W_eBl, W_if, W_eAnd, W_eOr, W_yes, O_ix_0, O_ix_1, O_ix_2, O_ix_3, O_ix_4, O_eq_ss, O_ne_ss, O_eq_ii, O_ne_ii, O_in_1, O_in_2, O_in_3, O_lt, O_le, O_gt, O_ge, O_add, O_sub, O_neg, O_int, O_intb, O_lent, O_min, O_max, O_tuplet, PV.bl.injEq, PV.int.injEq, PV.str.injEq, exists_eq_left', exists_eq_left, List.set_cons_zero, List.set_cons_succ, List.length_cons, List.length_nil, if_true, if_false, Bool.false_eq_true, decide_true, decide_false, ite_true, ite_false]
      exact ⟨by unfold in62; simp; omega, by congr 1, J⟩
    · intro g' k' Q' x h1 h2 J' hq
      subst hσ
      simp (decide := true) (implicitDefEqProofs := false) only [wipeP, Ex.ok_words, NX_RBt, NX_SKe, NX_LKt, Q_ret, Q_expr, Q_set, Q_sub, Q_if, Q_seq, Q_next, Q_ct, Q_bk, Q_retN, LK_nx, LK_ct, LK_bk, LK_rt, W_rng1, gName, SK_nx, SK_rt, SK_bk, SK_ct, RB_nx, RB_rt, W_var0, W_varS, W_c, W_op2, W_op1, W_nil, W_cons, W_fn, W_mt, W_call, W_tup, W_lst, W_dct0, W_pn, W_part, W_sl, W_isTy, W_tru, W_bl, W_and, W_or, W_not, W_eBl, W_if, W_eAnd, W_eOr, W_yes, O_ix_0, O_ix_1, O_ix_2, O_ix_3, O_ix_4, O_eq_ss, O_ne_ss, O_eq_ii, O_ne_ii, O_in_1, O_in_2, O_in_3, O_lt, O_le, O_gt, O_ge, O_add, O_sub, O_neg, O_int, O_intb, O_lent, O_min, O_max, O_tuplet, PV.bl.injEq, PV.int.injEq, PV.str.injEq, exists_eq_left', exists_eq_left, List.set_cons_zero, List.set_cons_succ, List.length_cons, List.length_nil, if_true, if_false, Bool.false_eq_true, decide_true, decide_false, ite_true, ite_false]
      exact ih h1 (by omega) J' hq
    · intro es D k' g' h1 h2 h3 h4 h5 h6
      subst hσ
      simp (decide := true) (implicitDefEqProofs := false) only [Ex.ok_words, NX_RBt, NX_SKe, NX_LKt, Q_ret, Q_expr, Q_set, Q_sub, Q_if, Q_seq, Q_next, Q_ct, Q_bk, Q_retN, LK_nx, LK_ct, LK_bk, LK_rt, W_rng1, gName, SK_nx, SK_rt, SK_bk, SK_ct, RB_nx, RB_rt, W_var0, W_varS, W_c, W_op2, W_op1, W_nil, W_cons, W_fn, W_mt, W_call, W_tup, W_lst, W_dct0, W_pn, W_part, W_sl, W_isTy, W_tru, W_bl, W_and, W_or, W_not, W_eBl, W_if, W_eAnd, W_eOr, W_yes, O_ix_0, O_ix_1, O_ix_2, O_ix_3, O_ix_4, O_eq_ss, O_ne_ss, O_eq_ii, O_ne_ii, O_in_1, O_in_2, O_in_3, O_lt, O_le, O_gt, O_ge, O_add, O_sub, O_neg, O_int, O_intb, O_lent, O_min, O_max, O_tuplet, PV.bl.injEq, PV.int.injEq, PV.str.injEq, exists_eq_left', exists_eq_left, List.set_cons_zero, List.set_cons_succ, List.length_cons, List.length_nil, if_true, if_false, Bool.false_eq_true, decide_true, decide_false, ite_true, ite_false, O_tuplel _ _ (seq_l _ h5)]
      refine w_grown_14 n h6 (by omega) (by rw [h1]; exact hwm) hcall hkd hon hwy h2 fun e k2 g2 p1 p2 p3 p4 => ?_
      exact q e k2 g2 p1 (by omega) (by omega) p4
  simp only [List.mem_cons, List.not_mem_nil, or_false] at hw
  rcases hw with rfl | rfl | rfl | rfl | rfl | rfl | rfl | rfl | rfl | rfl | rfl <;> simp (decide := true) (implicitDefEqProofs := false) only [t_law_grown_12, Ex.ok_words, NX_RBt, NX_SKe, NX_LKt, Q_ret, Q_expr, Q_set, Q_sub, Q_if, Q_seq, Q_next, Q_ct, Q_bk, Q_retN, LK_nx, LK_ct, LK_bk, LK_rt, W_rng1, gName, SK_nx, SK_rt, SK_bk, SK_ct, RB_nx, RB_rt, W_var0, W_varS, W_c, W_op2, W_op1, W_nil, W_cons, W_fn, W_mt, W_call, W_tup, W_lst, W_dct0, W_pn, W_part, W_sl, W_isTy, W_tru, W_bl, W_and, W_or, W_not, W_eBl, W_if, W_eAnd, W_eOr, W_yes, O_ix_0, O_ix_1, O_ix_2, O_ix_3, O_ix_4, O_eq_ss, O_ne_ss, O_eq_ii, O_ne_ii, O_in_1, O_in_2, O_in_3, O_lt, O_le, O_gt, O_ge, O_add, O_sub, O_neg, O_int, O_intb, O_lent, O_min, O_max, O_tuplet, PV.bl.injEq, PV.int.injEq, PV.str.injEq, exists_eq_left', exists_eq_left, List.set_cons_zero, List.set_cons_succ, List.length_cons, List.length_nil, if_true, if_false, Bool.false_eq_true, decide_true, decide_false, ite_true, ite_false, W_dct, W_pcons, W_pnil, keyOf_str, new_at, new_set, mergeD, putD, List.foldl_cons, List.foldl_nil, List.any_cons, List.any_nil, List.map_cons, List.map_nil, List.nil_append, List.cons_append, Bool.or_false, Bool.false_or, Sum.inr.injEq, look_cons, look_nil, Option.getD_some, Option.getD_none, dk_isD new_at, O_get new_at]
  · exact mk 2 2 _ rfl (J.app _) (by decide) (by decide)
  · exact mk 2 2 _ rfl (J.app _) (by decide) (by decide)
  · exact mk 2 2 _ rfl (J.app _) (by decide) (by decide)
  · exact mk 2 2 _ rfl (J.app _) (by decide) (by decide)
  · exact mk 2 2 _ rfl (J.app _) (by decide) (by decide)
  · exact mk 3 3 _ rfl (J.app _) (by decide) (by decide)
  · exact mk 1 1 _ rfl (J.app _) (by decide) (by decide)
  · exact mk 1 1 _ rfl (J.app _) (by decide) (by decide)
  · exact mk 1 1 _ rfl (J.app _) (by decide) (by decide)
  · exact mk 1 1 _ rfl (J.app _) (by decide) (by decide)
  · exact mk 1 1 _ rfl (J.app _) (by decide) (by decide)
end K19
end

section
set_option maxRecDepth 100000
set_option maxHeartbeats 1000000
/-! the generator of programs: grown, from its begin -/
namespace K19
open PySem Vm

section
variable {t nr rr : Nat} {rs : List Nat} {names : List Str} {g0 g : G} {k : Nat} {body i : Int} {w kd wy : Str} {x5 : Option PV} {Q : PV → G → Prop}
theorem g_3 (n : Nat) (hw : PyData.strOk w = true) (q : ∀ w', (w' = w ∨ w' = "fault" ∨ w' = "tell") → (w' = "call" → body ≠ 0) → (w' = "clean" → 3 ≤ i) → WS (t_law_grown_5 (CF n)) [some (.ref t), some (.ref nr), some (.int body), some (.int i), some (.ref rr), x5, some (.str w'), none, none, none, none, none, none, none] g (RB Q)) : WS (t_law_grown_3 (CF n)) [some (.ref t), some (.ref nr), some (.int body), some (.int i), some (.ref rr), x5, some (.str w), none, none, none, none, none, none, none] g (RB Q) := by
  by_cases h1 : w = "call"
  · subst h1
    by_cases h2 : body = 0
    · simp (decide := true) (implicitDefEqProofs := false) only [t_law_grown_3, t_law_grown_4, Ex.ok_words, NX_RBt, NX_SKe, NX_LKt, Q_ret, Q_expr, Q_set, Q_sub, Q_if, Q_seq, Q_next, Q_ct, Q_bk, Q_retN, LK_nx, LK_ct, LK_bk, LK_rt, W_rng1, gName, SK_nx, SK_rt, SK_bk, SK_ct, RB_nx, RB_rt, W_var0, W_varS, W_c, W_op2, W_op1, W_nil, W_cons, W_fn, W_mt, W_call, W_tup, W_lst, W_dct0, W_pn, W_part, W_sl, W_isTy, W_tru, W_bl, W_and, W_or, W_not, W_eBl, W_if, W_eAnd, W_eOr, W_yes, O_ix_0, O_ix_1, O_ix_2, O_ix_3, O_ix_4, O_eq_ss, O_ne_ss, O_eq_ii, O_ne_ii, O_in_1, O_in_2, O_in_3, O_lt, O_le, O_gt, O_ge, O_add, O_sub, O_neg, O_int, O_intb, O_lent, O_min, O_max, O_tuplet, PV.bl.injEq, PV.int.injEq, PV.str.injEq, exists_eq_left', exists_eq_left, List.set_cons_zero, List.set_cons_succ, List.length_cons, List.length_nil, if_true, if_false, Bool.false_eq_true, decide_true, decide_false, ite_true, ite_false, h2]
      subst h2
      exact q _ (by decide) (fun h => absurd h (by decide)) (fun h => absurd h (by decide))
    · simp (decide := true) (implicitDefEqProofs := false) only [t_law_grown_3, t_law_grown_4, Ex.ok_words, NX_RBt, NX_SKe, NX_LKt, Q_ret, Q_expr, Q_set, Q_sub, Q_if, Q_seq, Q_next, Q_ct, Q_bk, Q_retN, LK_nx, LK_ct, LK_bk, LK_rt, W_rng1, gName, SK_nx, SK_rt, SK_bk, SK_ct, RB_nx, RB_rt, W_var0, W_varS, W_c, W_op2, W_op1, W_nil, W_cons, W_fn, W_mt, W_call, W_tup, W_lst, W_dct0, W_pn, W_part, W_sl, W_isTy, W_tru, W_bl, W_and, W_or, W_not, W_eBl, W_if, W_eAnd, W_eOr, W_yes, O_ix_0, O_ix_1, O_ix_2, O_ix_3, O_ix_4, O_eq_ss, O_ne_ss, O_eq_ii, O_ne_ii, O_in_1, O_in_2, O_in_3, O_lt, O_le, O_gt, O_ge, O_add, O_sub, O_neg, O_int, O_intb, O_lent, O_min, O_max, O_tuplet, PV.bl.injEq, PV.int.injEq, PV.str.injEq, exists_eq_left', exists_eq_left, List.set_cons_zero, List.set_cons_succ, List.length_cons, List.length_nil, if_true, if_false, Bool.false_eq_true, decide_true, decide_false, ite_true, ite_false, h2]
      exact q _ (by decide) (fun _ => h2) (fun h => absurd h (by decide))
  · by_cases h2 : w = "clean"
    · subst h2
      by_cases h3 : i < 3
      · simp (decide := true) (implicitDefEqProofs := false) only [t_law_grown_3, t_law_grown_4, Ex.ok_words, NX_RBt, NX_SKe, NX_LKt, Q_ret, Q_expr, Q_set, Q_sub, Q_if, Q_seq, Q_next, Q_ct, Q_bk, Q_retN, LK_nx, LK_ct, LK_bk, LK_rt, W_rng1, gName, SK_nx, SK_rt, SK_bk, SK_ct, RB_nx, RB_rt, W_var0, W_varS, W_c, W_op2, W_op1, W_nil, W_cons, W_fn, W_mt, W_call, W_tup, W_lst, W_dct0, W_pn, W_part, W_sl, W_isTy, W_tru, W_bl, W_and, W_or, W_not, W_eBl, W_if, W_eAnd, W_eOr, W_yes, O_ix_0, O_ix_1, O_ix_2, O_ix_3, O_ix_4, O_eq_ss, O_ne_ss, O_eq_ii, O_ne_ii, O_in_1, O_in_2, O_in_3, O_lt, O_le, O_gt, O_ge, O_add, O_sub, O_neg, O_int, O_intb, O_lent, O_min, O_max, O_tuplet, PV.bl.injEq, PV.int.injEq, PV.str.injEq, exists_eq_left', exists_eq_left, List.set_cons_zero, List.set_cons_succ, List.length_cons, List.length_nil, if_true, if_false, Bool.false_eq_true, decide_true, decide_false, ite_true, ite_false, h3]
        exact q _ (by decide) (fun h => absurd h (by decide)) (fun h => absurd h (by decide))
      · simp (decide := true) (implicitDefEqProofs := false) only [t_law_grown_3, t_law_grown_4, Ex.ok_words, NX_RBt, NX_SKe, NX_LKt, Q_ret, Q_expr, Q_set, Q_sub, Q_if, Q_seq, Q_next, Q_ct, Q_bk, Q_retN, LK_nx, LK_ct, LK_bk, LK_rt, W_rng1, gName, SK_nx, SK_rt, SK_bk, SK_ct, RB_nx, RB_rt, W_var0, W_varS, W_c, W_op2, W_op1, W_nil, W_cons, W_fn, W_mt, W_call, W_tup, W_lst, W_dct0, W_pn, W_part, W_sl, W_isTy, W_tru, W_bl, W_and, W_or, W_not, W_eBl, W_if, W_eAnd, W_eOr, W_yes, O_ix_0, O_ix_1, O_ix_2, O_ix_3, O_ix_4, O_eq_ss, O_ne_ss, O_eq_ii, O_ne_ii, O_in_1, O_in_2, O_in_3, O_lt, O_le, O_gt, O_ge, O_add, O_sub, O_neg, O_int, O_intb, O_lent, O_min, O_max, O_tuplet, PV.bl.injEq, PV.int.injEq, PV.str.injEq, exists_eq_left', exists_eq_left, List.set_cons_zero, List.set_cons_succ, List.length_cons, List.length_nil, if_true, if_false, Bool.false_eq_true, decide_true, decide_false, ite_true, ite_false, h3]
        exact q _ (by decide) (fun h => absurd h (by decide)) (fun _ => by omega)
    · simp (decide := true) (implicitDefEqProofs := false) only [t_law_grown_3, t_law_grown_4, Ex.ok_words, NX_RBt, NX_SKe, NX_LKt, Q_ret, Q_expr, Q_set, Q_sub, Q_if, Q_seq, Q_next, Q_ct, Q_bk, Q_retN, LK_nx, LK_ct, LK_bk, LK_rt, W_rng1, gName, SK_nx, SK_rt, SK_bk, SK_ct, RB_nx, RB_rt, W_var0, W_varS, W_c, W_op2, W_op1, W_nil, W_cons, W_fn, W_mt, W_call, W_tup, W_lst, W_dct0, W_pn, W_part, W_sl, W_isTy, W_tru, W_bl, W_and, W_or, W_not, W_eBl, W_if, W_eAnd, W_eOr, W_yes, O_ix_0, O_ix_1, O_ix_2, O_ix_3, O_ix_4, O_eq_ss, O_ne_ss, O_eq_ii, O_ne_ii, O_in_1, O_in_2, O_in_3, O_lt, O_le, O_gt, O_ge, O_add, O_sub, O_neg, O_int, O_intb, O_lent, O_min, O_max, O_tuplet, PV.bl.injEq, PV.int.injEq, PV.str.injEq, exists_eq_left', exists_eq_left, List.set_cons_zero, List.set_cons_succ, List.length_cons, List.length_nil, if_true, if_false, Bool.false_eq_true, decide_true, decide_false, ite_true, ite_false, h1, h2, hw]
      exact q _ (.inl rfl) (fun h => absurd h h1) (fun h => absurd h h2)
theorem g_5 (n : Nat) (J : GJ t nr rs names g0 k g) (hr : rr ∈ rs) (hk : k + 10 < 100000000000) (q1 : 2 ≤ i → ∀ g', GJ t nr rs names g0 k g' → WS (t_law_grown_7 (CF (n + 2))) [some (.ref t), some (.ref nr), some (.int body), some (.int i), some (.ref rr), x5, some (.str w), none, none, none, none, none, none, none] g' (RB Q))
    (q2 : ∀ e k' g', Grown false body 1 e → k ≤ k' → k' ≤ k + 4 → GJ t nr rs names g0 k' g' → Q e.pv g') : WS (t_law_grown_5 (CF (n + 2))) [some (.ref t), some (.ref nr), some (.int body), some (.int i), some (.ref rr), x5, some (.str w), none, none, none, none, none, none, none] g (RB Q) := by
  obtain ⟨r0, hr0⟩ := J.rm rr hr
  have ix : ∀ Q, O (opIx (.ref rr) (.int 0) g) Q = Q (.int r0) g := fun Q => O_ix_l g Q hr0 (atI_ok (by decide) rfl)
  have st : ∀ v, Vm.gSub (eVar 4) (eC (.int 0)) v [some (.ref t), some (.ref nr), some (.int body), some (.int i), some (.ref rr), x5, some (.str w), none, none, none, none, none, none, none] g = some ([some (.ref t), some (.ref nr), some (.int body), some (.int i), some (.ref rr), x5, some (.str w), none, none, none, none, none, none, none], g.set rr (.lst [v])) := fun v => gSub_room rfl hr0
  have leaf : ∀ v : Int, WC (CF (n + 2)) ("", "_law_leaf") [.ref t, .ref nr] (g.set rr (.lst [.int v])) Q := fun v => by
    have J' := J.room hr v
    exact w_leaf n J'.here hk fun e k' g' h1 h2 h3 h4 => q2 e k' g' (h1 body) h2 h3 (J'.then h4 fun _ h => h)
  by_cases h1 : i < 2
  · simp (decide := true) (implicitDefEqProofs := false) only [t_law_grown_5, Ex.ok_words, NX_RBt, NX_SKe, NX_LKt, Q_ret, Q_expr, Q_set, Q_sub, Q_if, Q_seq, Q_next, Q_ct, Q_bk, Q_retN, LK_nx, LK_ct, LK_bk, LK_rt, W_rng1, gName, SK_nx, SK_rt, SK_bk, SK_ct, RB_nx, RB_rt, W_var0, W_varS, W_c, W_op2, W_op1, W_nil, W_cons, W_fn, W_mt, W_call, W_tup, W_lst, W_dct0, W_pn, W_part, W_sl, W_isTy, W_tru, W_bl, W_and, W_or, W_not, W_eBl, W_if, W_eAnd, W_eOr, W_yes, O_ix_0, O_ix_1, O_ix_2, O_ix_3, O_ix_4, O_eq_ss, O_ne_ss, O_eq_ii, O_ne_ii, O_in_1, O_in_2, O_in_3, O_lt, O_le, O_gt, O_ge, O_add, O_sub, O_neg, O_int, O_intb, O_lent, O_min, O_max, O_tuplet, PV.bl.injEq, PV.int.injEq, PV.str.injEq, exists_eq_left', exists_eq_left, List.set_cons_zero, List.set_cons_succ, List.length_cons, List.length_nil, if_true, if_false, Bool.false_eq_true, decide_true, decide_false, ite_true, ite_false, h1, ix, st]
    exact leaf _
  · by_cases h2 : r0 < 4
    · simp (decide := true) (implicitDefEqProofs := false) only [t_law_grown_5, Ex.ok_words, NX_RBt, NX_SKe, NX_LKt, Q_ret, Q_expr, Q_set, Q_sub, Q_if, Q_seq, Q_next, Q_ct, Q_bk, Q_retN, LK_nx, LK_ct, LK_bk, LK_rt, W_rng1, gName, SK_nx, SK_rt, SK_bk, SK_ct, RB_nx, RB_rt, W_var0, W_varS, W_c, W_op2, W_op1, W_nil, W_cons, W_fn, W_mt, W_call, W_tup, W_lst, W_dct0, W_pn, W_part, W_sl, W_isTy, W_tru, W_bl, W_and, W_or, W_not, W_eBl, W_if, W_eAnd, W_eOr, W_yes, O_ix_0, O_ix_1, O_ix_2, O_ix_3, O_ix_4, O_eq_ss, O_ne_ss, O_eq_ii, O_ne_ii, O_in_1, O_in_2, O_in_3, O_lt, O_le, O_gt, O_ge, O_add, O_sub, O_neg, O_int, O_intb, O_lent, O_min, O_max, O_tuplet, PV.bl.injEq, PV.int.injEq, PV.str.injEq, exists_eq_left', exists_eq_left, List.set_cons_zero, List.set_cons_succ, List.length_cons, List.length_nil, if_true, if_false, Bool.false_eq_true, decide_true, decide_false, ite_true, ite_false, h1, h2, ix, st]
      exact leaf _
    · simp (decide := true) (implicitDefEqProofs := false) only [t_law_grown_5, t_law_grown_6, Ex.ok_words, NX_RBt, NX_SKe, NX_LKt, Q_ret, Q_expr, Q_set, Q_sub, Q_if, Q_seq, Q_next, Q_ct, Q_bk, Q_retN, LK_nx, LK_ct, LK_bk, LK_rt, W_rng1, gName, SK_nx, SK_rt, SK_bk, SK_ct, RB_nx, RB_rt, W_var0, W_varS, W_c, W_op2, W_op1, W_nil, W_cons, W_fn, W_mt, W_call, W_tup, W_lst, W_dct0, W_pn, W_part, W_sl, W_isTy, W_tru, W_bl, W_and, W_or, W_not, W_eBl, W_if, W_eAnd, W_eOr, W_yes, O_ix_0, O_ix_1, O_ix_2, O_ix_3, O_ix_4, O_eq_ss, O_ne_ss, O_eq_ii, O_ne_ii, O_in_1, O_in_2, O_in_3, O_lt, O_le, O_gt, O_ge, O_add, O_sub, O_neg, O_int, O_intb, O_lent, O_min, O_max, O_tuplet, PV.bl.injEq, PV.int.injEq, PV.str.injEq, exists_eq_left', exists_eq_left, List.set_cons_zero, List.set_cons_succ, List.length_cons, List.length_nil, if_true, if_false, Bool.false_eq_true, decide_true, decide_false, ite_true, ite_false, h1, h2, ix, st]
      exact q1 (by omega) _ (J.room hr _)
theorem g_7 (n : Nat) (J : GJ t nr rs names g0 k g) (hw : PyData.strOk w = true) (hk : k + 10 < 100000000000) (q : ∀ kd k' g', nameOk kd = true → k ≤ k' → k' ≤ k + 3 → GJ t nr rs names g0 k' g' → WS (t_law_grown_9 (CF (n + 1))) [some (.ref t), some (.ref nr), some (.int body), some (.int i), some (.ref rr), x5, some (.str w), some (.str kd), none, none, none, none, none, none] g' (RB Q)) : WS (t_law_grown_7 (CF (n + 1))) [some (.ref t), some (.ref nr), some (.int body), some (.int i), some (.ref rr), x5, some (.str w), none, none, none, none, none, none, none] g (RB Q) := by
  simp (decide := true) (implicitDefEqProofs := false) only [t_law_grown_7, Ex.ok_words, NX_RBt, NX_SKe, NX_LKt, Q_ret, Q_expr, Q_set, Q_sub, Q_if, Q_seq, Q_next, Q_ct, Q_bk, Q_retN, LK_nx, LK_ct, LK_bk, LK_rt, W_rng1, gName, SK_nx, SK_rt, SK_bk, SK_ct, RB_nx, RB_rt, W_var0, W_varS, W_c, W_op2, W_op1, W_nil, W_cons, W_fn, W_mt, W_call, W_tup, W_lst, W_dct0, W_pn, W_part, W_sl, W_isTy, W_tru, W_bl, W_and, W_or, W_not, W_eBl, W_if, W_eAnd, W_eOr, W_yes, O_ix_0, O_ix_1, O_ix_2, O_ix_3, O_ix_4, O_eq_ss, O_ne_ss, O_eq_ii, O_ne_ii, O_in_1, O_in_2, O_in_3, O_lt, O_le, O_gt, O_ge, O_add, O_sub, O_neg, O_int, O_intb, O_lent, O_min, O_max, O_tuplet, PV.bl.injEq, PV.int.injEq, PV.str.injEq, exists_eq_left', exists_eq_left, List.set_cons_zero, List.set_cons_succ, List.length_cons, List.length_nil, if_true, if_false, Bool.false_eq_true, decide_true, decide_false, ite_true, ite_false, J.nm.len]
  have := J.nm.ne
  refine w_pickJ n J (by omega) (by omega) fun v g1 a1 b1 J1 F1 => ?_
  refine J1.nm.some_of a1 b1 fun x hx => ?_
  by_cases h : (decide ((Str.ofString "fault") = w) || decide ((Str.ofString "look") = w)) = true
  · simp (decide := true) (implicitDefEqProofs := false) only [t_law_grown_8, Ex.ok_words, NX_RBt, NX_SKe, NX_LKt, Q_ret, Q_expr, Q_set, Q_sub, Q_if, Q_seq, Q_next, Q_ct, Q_bk, Q_retN, LK_nx, LK_ct, LK_bk, LK_rt, W_rng1, gName, SK_nx, SK_rt, SK_bk, SK_ct, RB_nx, RB_rt, W_var0, W_varS, W_c, W_op2, W_op1, W_nil, W_cons, W_fn, W_mt, W_call, W_tup, W_lst, W_dct0, W_pn, W_part, W_sl, W_isTy, W_tru, W_bl, W_and, W_or, W_not, W_eBl, W_if, W_eAnd, W_eOr, W_yes, O_ix_0, O_ix_1, O_ix_2, O_ix_3, O_ix_4, O_eq_ss, O_ne_ss, O_eq_ii, O_ne_ii, O_in_1, O_in_2, O_in_3, O_lt, O_le, O_gt, O_ge, O_add, O_sub, O_neg, O_int, O_intb, O_lent, O_min, O_max, O_tuplet, PV.bl.injEq, PV.int.injEq, PV.str.injEq, exists_eq_left', exists_eq_left, List.set_cons_zero, List.set_cons_succ, List.length_cons, List.length_nil, if_true, if_false, Bool.false_eq_true, decide_true, decide_false, ite_true, ite_false, h]
    refine w_pickJ n J1 (by omega) (by decide) fun v2 g2 a2 b2 J2 F2 => ?_
    by_cases h2 : v2 = 0
    · simp (decide := true) (implicitDefEqProofs := false) only [Ex.ok_words, NX_RBt, NX_SKe, NX_LKt, Q_ret, Q_expr, Q_set, Q_sub, Q_if, Q_seq, Q_next, Q_ct, Q_bk, Q_retN, LK_nx, LK_ct, LK_bk, LK_rt, W_rng1, gName, SK_nx, SK_rt, SK_bk, SK_ct, RB_nx, RB_rt, W_var0, W_varS, W_c, W_op2, W_op1, W_nil, W_cons, W_fn, W_mt, W_call, W_tup, W_lst, W_dct0, W_pn, W_part, W_sl, W_isTy, W_tru, W_bl, W_and, W_or, W_not, W_eBl, W_if, W_eAnd, W_eOr, W_yes, O_ix_0, O_ix_1, O_ix_2, O_ix_3, O_ix_4, O_eq_ss, O_ne_ss, O_eq_ii, O_ne_ii, O_in_1, O_in_2, O_in_3, O_lt, O_le, O_gt, O_ge, O_add, O_sub, O_neg, O_int, O_intb, O_lent, O_min, O_max, O_tuplet, PV.bl.injEq, PV.int.injEq, PV.str.injEq, exists_eq_left', exists_eq_left, List.set_cons_zero, List.set_cons_succ, List.length_cons, List.length_nil, if_true, if_false, Bool.false_eq_true, decide_true, decide_false, ite_true, ite_false, h2]
      refine w_pickJ n (J2.app _) (by omega) (by decide) fun v3 g3 a3 b3 J3 F3 => ?_
      have at_ := F3.get (new_at (g := g2)) (by have := J2.lt; have := J2.fr.le; simp; omega)
      refine O_some_of at_ a3 (by simpa using b3) fun y hy => ?_
      simp only [List.mem_cons, List.not_mem_nil, or_false] at hy
      rcases hy with rfl | rfl
      · exact q "dry" _ _ (by decide +kernel) (by omega) (by omega) J3
      · exact q "noway" _ _ (by decide +kernel) (by omega) (by omega) J3
    · simp (decide := true) (implicitDefEqProofs := false) only [Ex.ok_words, NX_RBt, NX_SKe, NX_LKt, Q_ret, Q_expr, Q_set, Q_sub, Q_if, Q_seq, Q_next, Q_ct, Q_bk, Q_retN, LK_nx, LK_ct, LK_bk, LK_rt, W_rng1, gName, SK_nx, SK_rt, SK_bk, SK_ct, RB_nx, RB_rt, W_var0, W_varS, W_c, W_op2, W_op1, W_nil, W_cons, W_fn, W_mt, W_call, W_tup, W_lst, W_dct0, W_pn, W_part, W_sl, W_isTy, W_tru, W_bl, W_and, W_or, W_not, W_eBl, W_if, W_eAnd, W_eOr, W_yes, O_ix_0, O_ix_1, O_ix_2, O_ix_3, O_ix_4, O_eq_ss, O_ne_ss, O_eq_ii, O_ne_ii, O_in_1, O_in_2, O_in_3, O_lt, O_le, O_gt, O_ge, O_add, O_sub, O_neg, O_int, O_intb, O_lent, O_min, O_max, O_tuplet, PV.bl.injEq, PV.int.injEq, PV.str.injEq, exists_eq_left', exists_eq_left, List.set_cons_zero, List.set_cons_succ, List.length_cons, List.length_nil, if_true, if_false, Bool.false_eq_true, decide_true, decide_false, ite_true, ite_false, h2]
      exact q x _ _ hx (by omega) (by omega) J2
  · have h' := Bool.eq_false_iff.mpr h
    simp (decide := true) (implicitDefEqProofs := false) only [t_law_grown_8, Ex.ok_words, NX_RBt, NX_SKe, NX_LKt, Q_ret, Q_expr, Q_set, Q_sub, Q_if, Q_seq, Q_next, Q_ct, Q_bk, Q_retN, LK_nx, LK_ct, LK_bk, LK_rt, W_rng1, gName, SK_nx, SK_rt, SK_bk, SK_ct, RB_nx, RB_rt, W_var0, W_varS, W_c, W_op2, W_op1, W_nil, W_cons, W_fn, W_mt, W_call, W_tup, W_lst, W_dct0, W_pn, W_part, W_sl, W_isTy, W_tru, W_bl, W_and, W_or, W_not, W_eBl, W_if, W_eAnd, W_eOr, W_yes, O_ix_0, O_ix_1, O_ix_2, O_ix_3, O_ix_4, O_eq_ss, O_ne_ss, O_eq_ii, O_ne_ii, O_in_1, O_in_2, O_in_3, O_lt, O_le, O_gt, O_ge, O_add, O_sub, O_neg, O_int, O_intb, O_lent, O_min, O_max, O_tuplet, PV.bl.injEq, PV.int.injEq, PV.str.injEq, exists_eq_left', exists_eq_left, List.set_cons_zero, List.set_cons_succ, List.length_cons, List.length_nil, if_true, if_false, Bool.false_eq_true, decide_true, decide_false, ite_true, ite_false, h']
    exact q x _ _ hx (by omega) (by omega) J1
theorem g_9 (n : Nat) (J : GJ t nr rs names g0 k g) (hw : PyData.strOk w = true) (hk : k + 10 < 100000000000) (q : ∀ wy k' g', nameOk wy = true → k ≤ k' → k' ≤ k + 2 → GJ t nr rs names g0 k' g' → WS (t_law_grown_10 (CF (n + 1))) [some (.ref t), some (.ref nr), some (.int body), some (.int i), some (.ref rr), x5, some (.str w), some (.str kd), some (.str wy), none, none, none, none, none] g' (RB Q)) : WS (t_law_grown_9 (CF (n + 1))) [some (.ref t), some (.ref nr), some (.int body), some (.int i), some (.ref rr), x5, some (.str w), some (.str kd), none, none, none, none, none, none] g (RB Q) := by
  simp (decide := true) (implicitDefEqProofs := false) only [t_law_grown_9, Ex.ok_words, NX_RBt, NX_SKe, NX_LKt, Q_ret, Q_expr, Q_set, Q_sub, Q_if, Q_seq, Q_next, Q_ct, Q_bk, Q_retN, LK_nx, LK_ct, LK_bk, LK_rt, W_rng1, gName, SK_nx, SK_rt, SK_bk, SK_ct, RB_nx, RB_rt, W_var0, W_varS, W_c, W_op2, W_op1, W_nil, W_cons, W_fn, W_mt, W_call, W_tup, W_lst, W_dct0, W_pn, W_part, W_sl, W_isTy, W_tru, W_bl, W_and, W_or, W_not, W_eBl, W_if, W_eAnd, W_eOr, W_yes, O_ix_0, O_ix_1, O_ix_2, O_ix_3, O_ix_4, O_eq_ss, O_ne_ss, O_eq_ii, O_ne_ii, O_in_1, O_in_2, O_in_3, O_lt, O_le, O_gt, O_ge, O_add, O_sub, O_neg, O_int, O_intb, O_lent, O_min, O_max, O_tuplet, PV.bl.injEq, PV.int.injEq, PV.str.injEq, exists_eq_left', exists_eq_left, List.set_cons_zero, List.set_cons_succ, List.length_cons, List.length_nil, if_true, if_false, Bool.false_eq_true, decide_true, decide_false, ite_true, ite_false, J.nm.len]
  have := J.nm.ne
  have hon : nameOk "on" = true := by decide +kernel
  refine w_pickJ n J (by omega) (by omega) fun v g1 a1 b1 J1 F1 => ?_
  refine J1.nm.some_of a1 b1 fun x hx => ?_
  by_cases h : w = "take"
  · simp (decide := true) (implicitDefEqProofs := false) only [Ex.ok_words, NX_RBt, NX_SKe, NX_LKt, Q_ret, Q_expr, Q_set, Q_sub, Q_if, Q_seq, Q_next, Q_ct, Q_bk, Q_retN, LK_nx, LK_ct, LK_bk, LK_rt, W_rng1, gName, SK_nx, SK_rt, SK_bk, SK_ct, RB_nx, RB_rt, W_var0, W_varS, W_c, W_op2, W_op1, W_nil, W_cons, W_fn, W_mt, W_call, W_tup, W_lst, W_dct0, W_pn, W_part, W_sl, W_isTy, W_tru, W_bl, W_and, W_or, W_not, W_eBl, W_if, W_eAnd, W_eOr, W_yes, O_ix_0, O_ix_1, O_ix_2, O_ix_3, O_ix_4, O_eq_ss, O_ne_ss, O_eq_ii, O_ne_ii, O_in_1, O_in_2, O_in_3, O_lt, O_le, O_gt, O_ge, O_add, O_sub, O_neg, O_int, O_intb, O_lent, O_min, O_max, O_tuplet, PV.bl.injEq, PV.int.injEq, PV.str.injEq, exists_eq_left', exists_eq_left, List.set_cons_zero, List.set_cons_succ, List.length_cons, List.length_nil, if_true, if_false, Bool.false_eq_true, decide_true, decide_false, ite_true, ite_false, h, tru, hw]
    refine w_pickJ n (J1.app _) (by omega) (by decide) fun v2 g2 a2 b2 J2 F2 => ?_
    have at_ := F2.get (new_at (g := g1)) (by have := J1.lt; have := J1.fr.le; simp; omega)
    simp (decide := true) (implicitDefEqProofs := false) only [Ex.ok_words, NX_RBt, NX_SKe, NX_LKt, Q_ret, Q_expr, Q_set, Q_sub, Q_if, Q_seq, Q_next, Q_ct, Q_bk, Q_retN, LK_nx, LK_ct, LK_bk, LK_rt, W_rng1, gName, SK_nx, SK_rt, SK_bk, SK_ct, RB_nx, RB_rt, W_var0, W_varS, W_c, W_op2, W_op1, W_nil, W_cons, W_fn, W_mt, W_call, W_tup, W_lst, W_dct0, W_pn, W_part, W_sl, W_isTy, W_tru, W_bl, W_and, W_or, W_not, W_eBl, W_if, W_eAnd, W_eOr, W_yes, O_ix_0, O_ix_1, O_ix_2, O_ix_3, O_ix_4, O_eq_ss, O_ne_ss, O_eq_ii, O_ne_ii, O_in_1, O_in_2, O_in_3, O_lt, O_le, O_gt, O_ge, O_add, O_sub, O_neg, O_int, O_intb, O_lent, O_min, O_max, O_tuplet, PV.bl.injEq, PV.int.injEq, PV.str.injEq, exists_eq_left', exists_eq_left, List.set_cons_zero, List.set_cons_succ, List.length_cons, List.length_nil, if_true, if_false, Bool.false_eq_true, decide_true, decide_false, ite_true, ite_false, O_ix2 at_]
    by_cases h2 : v2 = 0
    · simp only [h2, if_true]
      rw [← h]
      exact q "on" _ _ hon (by omega) (by omega) J2
    · simp only [h2, if_false]
      rw [← h]
      exact q x _ _ hx (by omega) (by omega) J2
  · simp (decide := true) (implicitDefEqProofs := false) only [Ex.ok_words, NX_RBt, NX_SKe, NX_LKt, Q_ret, Q_expr, Q_set, Q_sub, Q_if, Q_seq, Q_next, Q_ct, Q_bk, Q_retN, LK_nx, LK_ct, LK_bk, LK_rt, W_rng1, gName, SK_nx, SK_rt, SK_bk, SK_ct, RB_nx, RB_rt, W_var0, W_varS, W_c, W_op2, W_op1, W_nil, W_cons, W_fn, W_mt, W_call, W_tup, W_lst, W_dct0, W_pn, W_part, W_sl, W_isTy, W_tru, W_bl, W_and, W_or, W_not, W_eBl, W_if, W_eAnd, W_eOr, W_yes, O_ix_0, O_ix_1, O_ix_2, O_ix_3, O_ix_4, O_eq_ss, O_ne_ss, O_eq_ii, O_ne_ii, O_in_1, O_in_2, O_in_3, O_lt, O_le, O_gt, O_ge, O_add, O_sub, O_neg, O_int, O_intb, O_lent, O_min, O_max, O_tuplet, PV.bl.injEq, PV.int.injEq, PV.str.injEq, exists_eq_left', exists_eq_left, List.set_cons_zero, List.set_cons_succ, List.length_cons, List.length_nil, if_true, if_false, Bool.false_eq_true, decide_true, decide_false, ite_true, ite_false, h, tru, hw]
    rw [O_ix_l _ _ new_at (atI_ok (by decide) rfl)]
    exact q x _ _ hx (by omega) (by omega) (J1.app _)
theorem g_11 (n : Nat) (hw : PyData.strOk w = true) (hkd : nameOk kd = true) (q : ∀ kd', nameOk kd' = true → (w = "way" ∨ w = "anew" → kd' ≠ "on") → WS (t_law_grown_12 (CF n)) [some (.ref t), some (.ref nr), some (.int body), some (.int i), some (.ref rr), x5, some (.str w), some (.str kd'), some (.str wy), none, none, none, none, none] g (RB Q)) : WS (t_law_grown_11 (CF n)) [some (.ref t), some (.ref nr), some (.int body), some (.int i), some (.ref rr), x5, some (.str w), some (.str kd), some (.str wy), none, none, none, none, none] g (RB Q) := by
  have hkd' := nameOk_str hkd
  by_cases h1 : w = "way" ∨ w = "anew"
  · have e : (decide ((Str.ofString "way") = w) || decide ((Str.ofString "anew") = w)) = true := by
      rcases h1 with rfl | rfl <;> decide
    by_cases h2 : kd = "on"
    · simp (decide := true) (implicitDefEqProofs := false) only [t_law_grown_11, Ex.ok_words, NX_RBt, NX_SKe, NX_LKt, Q_ret, Q_expr, Q_set, Q_sub, Q_if, Q_seq, Q_next, Q_ct, Q_bk, Q_retN, LK_nx, LK_ct, LK_bk, LK_rt, W_rng1, gName, SK_nx, SK_rt, SK_bk, SK_ct, RB_nx, RB_rt, W_var0, W_varS, W_c, W_op2, W_op1, W_nil, W_cons, W_fn, W_mt, W_call, W_tup, W_lst, W_dct0, W_pn, W_part, W_sl, W_isTy, W_tru, W_bl, W_and, W_or, W_not, W_eBl, W_if, W_eAnd, W_eOr, W_yes, O_ix_0, O_ix_1, O_ix_2, O_ix_3, O_ix_4, O_eq_ss, O_ne_ss, O_eq_ii, O_ne_ii, O_in_1, O_in_2, O_in_3, O_lt, O_le, O_gt, O_ge, O_add, O_sub, O_neg, O_int, O_intb, O_lent, O_min, O_max, O_tuplet, PV.bl.injEq, PV.int.injEq, PV.str.injEq, exists_eq_left', exists_eq_left, List.set_cons_zero, List.set_cons_succ, List.length_cons, List.length_nil, if_true, if_false, Bool.false_eq_true, decide_true, decide_false, ite_true, ite_false, e, h2]
      exact q "a" (by decide +kernel) (fun _ => by decide)
    · simp (decide := true) (implicitDefEqProofs := false) only [t_law_grown_11, Ex.ok_words, NX_RBt, NX_SKe, NX_LKt, Q_ret, Q_expr, Q_set, Q_sub, Q_if, Q_seq, Q_next, Q_ct, Q_bk, Q_retN, LK_nx, LK_ct, LK_bk, LK_rt, W_rng1, gName, SK_nx, SK_rt, SK_bk, SK_ct, RB_nx, RB_rt, W_var0, W_varS, W_c, W_op2, W_op1, W_nil, W_cons, W_fn, W_mt, W_call, W_tup, W_lst, W_dct0, W_pn, W_part, W_sl, W_isTy, W_tru, W_bl, W_and, W_or, W_not, W_eBl, W_if, W_eAnd, W_eOr, W_yes, O_ix_0, O_ix_1, O_ix_2, O_ix_3, O_ix_4, O_eq_ss, O_ne_ss, O_eq_ii, O_ne_ii, O_in_1, O_in_2, O_in_3, O_lt, O_le, O_gt, O_ge, O_add, O_sub, O_neg, O_int, O_intb, O_lent, O_min, O_max, O_tuplet, PV.bl.injEq, PV.int.injEq, PV.str.injEq, exists_eq_left', exists_eq_left, List.set_cons_zero, List.set_cons_succ, List.length_cons, List.length_nil, if_true, if_false, Bool.false_eq_true, decide_true, decide_false, ite_true, ite_false, e, h2, hkd']
      exact q kd hkd (fun _ => h2)
  · have e : (decide ((Str.ofString "way") = w) || decide ((Str.ofString "anew") = w)) = false := by
      rw [Bool.or_eq_false_iff, decide_eq_false_iff_not, decide_eq_false_iff_not]
      exact ⟨fun h => h1 (.inl h.symm), fun h => h1 (.inr h.symm)⟩
    simp (decide := true) (implicitDefEqProofs := false) only [t_law_grown_11, Ex.ok_words, NX_RBt, NX_SKe, NX_LKt, Q_ret, Q_expr, Q_set, Q_sub, Q_if, Q_seq, Q_next, Q_ct, Q_bk, Q_retN, LK_nx, LK_ct, LK_bk, LK_rt, W_rng1, gName, SK_nx, SK_rt, SK_bk, SK_ct, RB_nx, RB_rt, W_var0, W_varS, W_c, W_op2, W_op1, W_nil, W_cons, W_fn, W_mt, W_call, W_tup, W_lst, W_dct0, W_pn, W_part, W_sl, W_isTy, W_tru, W_bl, W_and, W_or, W_not, W_eBl, W_if, W_eAnd, W_eOr, W_yes, O_ix_0, O_ix_1, O_ix_2, O_ix_3, O_ix_4, O_eq_ss, O_ne_ss, O_eq_ii, O_ne_ii, O_in_1, O_in_2, O_in_3, O_lt, O_le, O_gt, O_ge, O_add, O_sub, O_neg, O_int, O_intb, O_lent, O_min, O_max, O_tuplet, PV.bl.injEq, PV.int.injEq, PV.str.injEq, exists_eq_left', exists_eq_left, List.set_cons_zero, List.set_cons_succ, List.length_cons, List.length_nil, if_true, if_false, Bool.false_eq_true, decide_true, decide_false, ite_true, ite_false, e]
    exact q kd hkd (fun h => absurd h h1)
end
theorem w_grown : ∀ (d n : Nat) {body i : Int} {t nr rr : Nat} {rs : List Nat} {names : List Str} {g : G} {k : Nat} {Q : PV → G → Prop}, i = (d : Int) → 1 ≤ d → d ≤ n → 0 ≤ body → rr ∈ rs → GJ t nr rs names g k g → k + 100 * 4 ^ d < 100000000000 →
    (∀ e k' g', Grown false body d e → k ≤ k' → k' ≤ k + 90 * 4 ^ d → GJ t nr rs names g k' g' → Q e.pv g') → WC (CF (n + 2)) ("", "_law_grown") [.ref t, .ref nr, .int body, .int i, .ref rr] g Q
  | 0, n, body, i, t, nr, rr, rs, names, g, k, Q, hi, h1, hn, hb, hr, J, hk, q => by omega
  | d + 1, 0, body, i, t, nr, rr, rs, names, g, k, Q, hi, h1, hn, hb, hr, J, hk, q => by omega
  | d + 1, n + 1, body, i, t, nr, rr, rs, names, g, k, Q, hi, h1, hn, hb, hr, J, hk, q => by
    have h4 : 90 * 4 ^ (d + 1) = 360 * 4 ^ d := by rw [Nat.pow_succ]; omega
    have h5 : 100 * 4 ^ (d + 1) = 400 * 4 ^ d := by rw [Nat.pow_succ]; omega
    have hp : 1 ≤ 4 ^ d := Nat.one_le_pow _ _ (by decide)
    rw [h4] at q
    rw [h5] at hk
    refine wc_body (c_law_grown (n + 2) _ _ _ _ _ g) ?_
    rw [u_law_grown]
    simp (decide := true) (implicitDefEqProofs := false) only [t_law_grown_0, t_law_grown_1, Ex.ok_words, NX_RBt, NX_SKe, NX_LKt, Q_ret, Q_expr, Q_set, Q_sub, Q_if, Q_seq, Q_next, Q_ct, Q_bk, Q_retN, LK_nx, LK_ct, LK_bk, LK_rt, W_rng1, gName, SK_nx, SK_rt, SK_bk, SK_ct, RB_nx, RB_rt, W_var0, W_varS, W_c, W_op2, W_op1, W_nil, W_cons, W_fn, W_mt, W_call, W_tup, W_lst, W_dct0, W_pn, W_part, W_sl, W_isTy, W_tru, W_bl, W_and, W_or, W_not, W_eBl, W_if, W_eAnd, W_eOr, W_yes, O_ix_0, O_ix_1, O_ix_2, O_ix_3, O_ix_4, O_eq_ss, O_ne_ss, O_eq_ii, O_ne_ii, O_in_1, O_in_2, O_in_3, O_lt, O_le, O_gt, O_ge, O_add, O_sub, O_neg, O_int, O_intb, O_lent, O_min, O_max, O_tuplet, PV.bl.injEq, PV.int.injEq, PV.str.injEq, exists_eq_left', exists_eq_left, List.set_cons_zero, List.set_cons_succ, List.length_cons, List.length_nil, if_true, if_false, Bool.false_eq_true, decide_true, decide_false, ite_true, ite_false]
    rw [O_addl _ _ new_at2 new_at (by simp [big])]
    simp (decide := true) (implicitDefEqProofs := false) only [t_law_grown_2, Ex.ok_words, NX_RBt, NX_SKe, NX_LKt, Q_ret, Q_expr, Q_set, Q_sub, Q_if, Q_seq, Q_next, Q_ct, Q_bk, Q_retN, LK_nx, LK_ct, LK_bk, LK_rt, W_rng1, gName, SK_nx, SK_rt, SK_bk, SK_ct, RB_nx, RB_rt, W_var0, W_varS, W_c, W_op2, W_op1, W_nil, W_cons, W_fn, W_mt, W_call, W_tup, W_lst, W_dct0, W_pn, W_part, W_sl, W_isTy, W_tru, W_bl, W_and, W_or, W_not, W_eBl, W_if, W_eAnd, W_eOr, W_yes, O_ix_0, O_ix_1, O_ix_2, O_ix_3, O_ix_4, O_eq_ss, O_ne_ss, O_eq_ii, O_ne_ii, O_in_1, O_in_2, O_in_3, O_lt, O_le, O_gt, O_ge, O_add, O_sub, O_neg, O_int, O_intb, O_lent, O_min, O_max, O_tuplet, PV.bl.injEq, PV.int.injEq, PV.str.injEq, exists_eq_left', exists_eq_left, List.set_cons_zero, List.set_cons_succ, List.length_cons, List.length_nil, if_true, if_false, Bool.false_eq_true, decide_true, decide_false, ite_true, ite_false]
    refine w_pickJ (n + 1) (((J.app _).app _).app _) (by omega) (by decide) fun v g1 a1 b1 J1 F1 => ?_
    have at_ := F1.get (new_at (g := g ++ _ ++ _)) (by have := J.lt; simp; omega)
    refine O_some_of at_ a1 (by simpa using b1) fun x hx => ?_
    have hx' : ∃ w, x = .str w ∧ w ∈ (["plus", "less", "let", "look", "way", "if", "tell", "call", "fault", "take", "anew", "clean"] : List Str) := by
      have hm : (([GO.lst [PV.str "x"]] : G) = [GO.lst [PV.str "x"]]) := rfl
      simp only [List.cons_append, List.nil_append, List.mem_cons, List.not_mem_nil, or_false] at hx
      rcases hx with rfl | rfl | rfl | rfl | rfl | rfl | rfl | rfl | rfl | rfl | rfl | rfl | rfl | rfl | rfl | rfl | rfl | rfl <;> exact ⟨_, rfl, by decide⟩
    obtain ⟨w0, rfl, hw0⟩ := hx'
    have wok : ∀ w : Str, w ∈ (["plus", "less", "let", "look", "way", "if", "tell", "call", "fault", "take", "anew", "clean"] : List Str) → PyData.strOk w = true := by decide +kernel
    refine g_3 (n + 2) (wok w0 hw0) fun w hw hcall hclean => ?_
    have hw1 : w ∈ (["plus", "less", "let", "look", "way", "if", "tell", "call", "fault", "take", "anew", "clean"] : List Str) := by
      rcases hw with rfl | rfl | rfl
      · exact hw0
      · decide
      · decide
    have wok1 := wok w hw1
    refine g_5 n J1 hr (by omega) (fun h2 g2 J2 => ?_) fun e k' g' h2 h3 h6 J' => q e k' g' (h2.mono (by omega)) (by omega) (by omega) J'
    refine g_7 (n + 1) J2 wok1 (by omega) fun kd k3 g3 hkd p1 p2 J3 => ?_
    refine g_9 (n + 1) J3 wok1 (by omega) fun wy k4 g4 hwy p3 p4 J4 => ?_
    by_cases hc : w = "clean"
    · have hi3 := hclean hc
      have ihc : ∀ {g' : G} {k' : Nat} {Q' : PV → G → Prop}, k4 ≤ k' → k' ≤ k4 + 10 * 4 ^ d + 3 → GJ t nr rs names g1 k' g' → (∀ e k2 g2, Grown false body d e → k' ≤ k2 → k2 ≤ k' + 90 * 4 ^ d → GJ t nr rs names g' k2 g2 → Q' e.pv g2) → WC (CF (n + 2)) ("", "_law_grown") [.ref t, .ref nr, .int body, .int (i - 1), .ref rr] g' Q' := fun h7 h8 J' hq =>
        w_grown d n (by omega) (by omega) (by omega) hb hr J'.here (by omega) hq
      subst hc
      unfold t_law_grown_10
      generalize hT : (sSeq (sAsg (Vm.gSub (eVar 4) (eC (.int 0))) (eOp2 opSub (eOp2 opIx (eVar 4) (eC (.int 0))) (eC (.int 8))))
            (sSeq (sRet (eTup (eCons (eC (.str "clean")) (eCons (eVar 12) (eCons (eCall (CF (n + 2)) ("", "_law_grown") (eCons (eVar 0) (eCons (eVar 1) (eCons (eVar 2) (eCons (eOp2 opSub (eVar 3) (eC (.int 1))) (eCons (eVar 4) eNil)))))) eNil)))))
             (sNext))) = T
      simp (decide := true) (implicitDefEqProofs := false) only [Ex.ok_words, NX_RBt, NX_SKe, NX_LKt, Q_ret, Q_expr, Q_set, Q_sub, Q_if, Q_seq, Q_next, Q_ct, Q_bk, Q_retN, LK_nx, LK_ct, LK_bk, LK_rt, W_rng1, gName, SK_nx, SK_rt, SK_bk, SK_ct, RB_nx, RB_rt, W_var0, W_varS, W_c, W_op2, W_op1, W_nil, W_cons, W_fn, W_mt, W_call, W_tup, W_lst, W_dct0, W_pn, W_part, W_sl, W_isTy, W_tru, W_bl, W_and, W_or, W_not, W_eBl, W_if, W_eAnd, W_eOr, W_yes, O_ix_0, O_ix_1, O_ix_2, O_ix_3, O_ix_4, O_eq_ss, O_ne_ss, O_eq_ii, O_ne_ii, O_in_1, O_in_2, O_in_3, O_lt, O_le, O_gt, O_ge, O_add, O_sub, O_neg, O_int, O_intb, O_lent, O_min, O_max, O_tuplet, PV.bl.injEq, PV.int.injEq, PV.str.injEq, exists_eq_left', exists_eq_left, List.set_cons_zero, List.set_cons_succ, List.length_cons, List.length_nil, if_true, if_false, Bool.false_eq_true, decide_true, decide_false, ite_true, ite_false]
      refine w_pickJ (n + 1) J4 (by omega) (by decide) fun v5 g5 a5 b5 J5 F5 => ?_
      refine w_pickJ (n + 1) J5 (by omega) (by decide) fun v6 g6 a6 b6 J6 F6 => ?_
      have ed : ∀ (c : Ex) (k7 : Nat) (g7 : G), Grown true body d c → k4 ≤ k7 → k7 ≤ k4 + 10 * 4 ^ d + 2 → GJ t nr rs names g k7 g7 → WS T [some (.ref t), some (.ref nr), some (.int body), some (.int i), some (.ref rr), some (.ref (g ++ [GO.lst [PV.str "plus", PV.str "less", PV.str "if", PV.str "let", PV.str "tell", PV.str "call", PV.str "fault", PV.str "take", PV.str "look", PV.str "way", PV.str "anew", PV.str "clean"]] ++ [GO.lst [PV.str "look", PV.str "way", PV.str "fault", PV.str "take", PV.str "look", PV.str "fault"]]).length), some (.str "clean"), some (.str kd), some (.str wy), none, none, none, some c.pv, none] g7 (SK (t_law_grown_11 (CF (n + 2))) (RB Q)) := by
        subst hT
        intro c k7 g7 hc h7 h8 J7
        obtain ⟨r0, hr0⟩ := J7.rm rr hr
        have ix : ∀ Q, O (opIx (.ref rr) (.int 0) g7) Q = Q (.int r0) g7 := fun Q => O_ix_l g7 Q hr0 (atI_ok (by decide) rfl)
        generalize hσ : (some (PV.ref (g ++ [GO.lst [PV.str "plus", PV.str "less", PV.str "if", PV.str "let", PV.str "tell", PV.str "call", PV.str "fault", PV.str "take", PV.str "look", PV.str "way", PV.str "anew", PV.str "clean"]] ++ [GO.lst [PV.str "look", PV.str "way", PV.str "fault", PV.str "take", PV.str "look", PV.str "fault"]]).length)) = x5
        have st : ∀ v, Vm.gSub (eVar 4) (eC (.int 0)) v [some (.ref t), some (.ref nr), some (.int body), some (.int i), some (.ref rr), x5, some (.str "clean"), some (.str kd), some (.str wy), none, none, none, some c.pv, none] g7 = some ([some (.ref t), some (.ref nr), some (.int body), some (.int i), some (.ref rr), x5, some (.str "clean"), some (.str kd), some (.str wy), none, none, none, some c.pv, none], g7.set rr (.lst [v])) := fun v => gSub_room rfl hr0
        simp (decide := true) (implicitDefEqProofs := false) only [Ex.ok_words, NX_RBt, NX_SKe, NX_LKt, Q_ret, Q_expr, Q_set, Q_sub, Q_if, Q_seq, Q_next, Q_ct, Q_bk, Q_retN, LK_nx, LK_ct, LK_bk, LK_rt, W_rng1, gName, SK_nx, SK_rt, SK_bk, SK_ct, RB_nx, RB_rt, W_var0, W_varS, W_c, W_op2, W_op1, W_nil, W_cons, W_fn, W_mt, W_call, W_tup, W_lst, W_dct0, W_pn, W_part, W_sl, W_isTy, W_tru, W_bl, W_and, W_or, W_not, W_eBl, W_if, W_eAnd, W_eOr, W_yes, O_ix_0, O_ix_1, O_ix_2, O_ix_3, O_ix_4, O_eq_ss, O_ne_ss, O_eq_ii, O_ne_ii, O_in_1, O_in_2, O_in_3, O_lt, O_le, O_gt, O_ge, O_add, O_sub, O_neg, O_int, O_intb, O_lent, O_min, O_max, O_tuplet, PV.bl.injEq, PV.int.injEq, PV.str.injEq, exists_eq_left', exists_eq_left, List.set_cons_zero, List.set_cons_succ, List.length_cons, List.length_nil, if_true, if_false, Bool.false_eq_true, decide_true, decide_false, ite_true, ite_false, ix, st]
        refine w_grown d n (by omega) (by omega) (by omega) hb hr (J7.room hr _).here (by omega) fun e k2 g2 h9 p5 p6 J8 => ?_
        exact q (.clean c e) k2 g2 ⟨by simp [Ex.ok, hc.ok, h9.ok], by have := hc.dp; have := h9.dp; simp only [Ex.dep]; omega⟩ (by omega) (by omega) ((J7.room hr _).then J8 fun _ h => h)
      by_cases h6 : v6 = 0
      · simp (decide := true) (implicitDefEqProofs := false) only [h6, Ex.ok_words, NX_RBt, NX_SKe, NX_LKt, Q_ret, Q_expr, Q_set, Q_sub, Q_if, Q_seq, Q_next, Q_ct, Q_bk, Q_retN, LK_nx, LK_ct, LK_bk, LK_rt, W_rng1, gName, SK_nx, SK_rt, SK_bk, SK_ct, RB_nx, RB_rt, W_var0, W_varS, W_c, W_op2, W_op1, W_nil, W_cons, W_fn, W_mt, W_call, W_tup, W_lst, W_dct0, W_pn, W_part, W_sl, W_isTy, W_tru, W_bl, W_and, W_or, W_not, W_eBl, W_if, W_eAnd, W_eOr, W_yes, O_ix_0, O_ix_1, O_ix_2, O_ix_3, O_ix_4, O_eq_ss, O_ne_ss, O_eq_ii, O_ne_ii, O_in_1, O_in_2, O_in_3, O_lt, O_le, O_gt, O_ge, O_add, O_sub, O_neg, O_int, O_intb, O_lent, O_min, O_max, O_tuplet, PV.bl.injEq, PV.int.injEq, PV.str.injEq, exists_eq_left', exists_eq_left, List.set_cons_zero, List.set_cons_succ, List.length_cons, List.length_nil, if_true, if_false, Bool.false_eq_true, decide_true, decide_false, ite_true, ite_false]
        have hm : (if i - 1 < 3 then i - 1 else 3) = ((min d 3 : Nat) : Int) := by
          by_cases h : i - 1 < 3
          · rw [if_pos h]; omega
          · rw [if_neg h]; omega
        have h43 : 4 ^ (min d 3) ≤ 4 ^ d := Nat.pow_le_pow_right (by decide) (by omega)
        refine w_plain (min d 3) n hm (by omega) (by omega) J6.here (by omega) fun c k7 g7 h7 h8 h9 J7 => ?_
        have := ed c k7 g7 ((h7 body).mono (by omega)) (by omega) (by omega) (J6.then J7 fun _ h => h)
        first | exact this | simpa [SK, WS] using this
      · simp (decide := true) (implicitDefEqProofs := false) only [h6, Ex.ok_words, NX_RBt, NX_SKe, NX_LKt, Q_ret, Q_expr, Q_set, Q_sub, Q_if, Q_seq, Q_next, Q_ct, Q_bk, Q_retN, LK_nx, LK_ct, LK_bk, LK_rt, W_rng1, gName, SK_nx, SK_rt, SK_bk, SK_ct, RB_nx, RB_rt, W_var0, W_varS, W_c, W_op2, W_op1, W_nil, W_cons, W_fn, W_mt, W_call, W_tup, W_lst, W_dct0, W_pn, W_part, W_sl, W_isTy, W_tru, W_bl, W_and, W_or, W_not, W_eBl, W_if, W_eAnd, W_eOr, W_yes, O_ix_0, O_ix_1, O_ix_2, O_ix_3, O_ix_4, O_eq_ss, O_ne_ss, O_eq_ii, O_ne_ii, O_in_1, O_in_2, O_in_3, O_lt, O_le, O_gt, O_ge, O_add, O_sub, O_neg, O_int, O_intb, O_lent, O_min, O_max, O_tuplet, PV.bl.injEq, PV.int.injEq, PV.str.injEq, exists_eq_left', exists_eq_left, List.set_cons_zero, List.set_cons_succ, List.length_cons, List.length_nil, if_true, if_false, Bool.false_eq_true, decide_true, decide_false, ite_true, ite_false]
        have := ed (.tell (.num v5)) _ g6 ⟨rfl, by simp only [Ex.dep]; omega⟩ (by omega) (by omega) J6
        first | exact this | simpa [SK, WS] using this
    · have hw2 : w ∈ (["plus", "less", "let", "look", "way", "if", "tell", "call", "fault", "take", "anew"] : List Str) := by
        simp only [List.mem_cons, List.not_mem_nil, or_false] at hw1 ⊢
        rcases hw1 with rfl | rfl | rfl | rfl | rfl | rfl | rfl | rfl | rfl | rfl | rfl | rfl <;> first | decide | exact absurd rfl hc
      simp (decide := true) (implicitDefEqProofs := false) only [t_law_grown_10, Ex.ok_words, NX_RBt, NX_SKe, NX_LKt, Q_ret, Q_expr, Q_set, Q_sub, Q_if, Q_seq, Q_next, Q_ct, Q_bk, Q_retN, LK_nx, LK_ct, LK_bk, LK_rt, W_rng1, gName, SK_nx, SK_rt, SK_bk, SK_ct, RB_nx, RB_rt, W_var0, W_varS, W_c, W_op2, W_op1, W_nil, W_cons, W_fn, W_mt, W_call, W_tup, W_lst, W_dct0, W_pn, W_part, W_sl, W_isTy, W_tru, W_bl, W_and, W_or, W_not, W_eBl, W_if, W_eAnd, W_eOr, W_yes, O_ix_0, O_ix_1, O_ix_2, O_ix_3, O_ix_4, O_eq_ss, O_ne_ss, O_eq_ii, O_ne_ii, O_in_1, O_in_2, O_in_3, O_lt, O_le, O_gt, O_ge, O_add, O_sub, O_neg, O_int, O_intb, O_lent, O_min, O_max, O_tuplet, PV.bl.injEq, PV.int.injEq, PV.str.injEq, exists_eq_left', exists_eq_left, List.set_cons_zero, List.set_cons_succ, List.length_cons, List.length_nil, if_true, if_false, Bool.false_eq_true, decide_true, decide_false, ite_true, ite_false, hc, wok1]
      refine g_11 (n + 2) wok1 hkd fun kd' hkd' hon => ?_
      refine w_grown_12 (n + 1) (C := 90 * 4 ^ d) J4 (by omega) hw2 (fun h => by have := hcall h; omega) hkd' hon hwy ?_ fun e k' g' h7 h8 h9 J' => q e k' g' h7 (by omega) (by omega) J'
      intro g' k' Q' h7 h8 J' hq
      exact w_grown d n (by omega) (by omega) (by omega) hb hr J' (by omega) hq
end K19
end

section
set_option maxRecDepth 100000
set_option maxHeartbeats 1000000
/-! a program -/
namespace K19
open PySem Vm

theorem w_counts (n : Nat) {it : MI} {i : Nat} {σ : Sl} {g : G} {Q : PV → G → Prop} {es : List Ex} (hl : es.length ≤ 1000) (hd : ∀ e ∈ es, e.dep ≤ n) (hit : W it σ g fun src g1 => (∀ m, Items src (es.map Ex.pv) (g1 ++ m)) ∧ ∃ m, g1 = g ++ m)
    (q : ∀ m, Q (.int (es.map Ex.count).sum) (g ++ m)) (hi : i < σ.length) : W (eFn fSum (eCons (eComp it [i] (gName i) tYes (eCall (CF (n + 1)) ("", "_law_count") (eCons (eVar i) eNil))) eNil)) σ g Q := by
  simp (implicitDefEqProofs := false) only [W_fn, W_cons, W_nil]
  refine wp_map (L := es.map Ex.pv) (ys := es.map fun e => .int e.count) (by simp) (by rw [List.length_map]; unfold big; omega) ?_ ?_
  · refine W_mono hit ?_
    rintro src g1 ⟨h1, m, rfl⟩
    refine ⟨h1, fun m2 => ?_⟩
    have at2 : ((g ++ m) ++ GO.lst (es.map fun e => PV.int e.count) :: m2)[(g ++ m).length]? = some (.lst (es.map fun e => PV.int e.count)) := by simp
    rw [O_sum _ _ (seq_l _ at2) (ns := es.map Ex.count) (by rw [← sum_ints, List.map_map]; rfl)]
    have := q (m ++ GO.lst (es.map fun e => PV.int e.count) :: m2)
    simpa using this
  · intro j x y g' Q' hx hy hq
    rw [List.getElem?_map] at hx hy
    cases hp : es[j]? with
    | none => rw [hp] at hx; cases hx
    | some e =>
      rw [hp] at hx hy
      cases hx
      cases hy
      rw [W_call, W_cons, W_var _ _ _ _ e.pv (by rw [List.getElem?_set_self (by simpa [wipeP] using hi)]), W_nil]
      exact w_count n e (hd e (List.mem_of_getElem? hp)) hq
/-- how far the bodies are -/
structure PI (g : G) (r t nr br mr : Nat) (names : List Str) (j k : Nat) (es : List Ex) (g' : G) : Prop where
  fr : Fr [] g g'
  tp : TP t k g'
  nm : NM nr names g'
  bo : g'[br]? = some (.lst (es.map Ex.pv))
  rm : ∃ x : Int, g'[mr]? = some (.lst [.int x])
  len : es.length = j
  ok : ∀ (j : Nat) (e : Ex), es[j]? = some e → Grown false (j : Int) 8 e
  kk : k ≤ 10 + j * (90 * 4 ^ 8 + 5)
  gt : g.length ≤ t
  gnr : g.length ≤ nr
  gbr : g.length ≤ br
  gmr : g.length ≤ mr
  ne : nr ≠ t ∧ br ≠ t ∧ mr ≠ t ∧ br ≠ nr ∧ mr ≠ nr ∧ mr ≠ br
section
variable {g g' : G} {r t nr br mr : Nat} {names : List Str} {j k : Nat} {es : List Ex} {at_ : Int} {x7 x8 : Option PV}
def pσ (r t nr br mr : Nat) (at_ : Int) (x6 x7 x8 : Option PV) : Sl := [some (.ref r), some (.int at_), some (.ref t), some (.ref nr), some (.ref br), some (.ref mr), x6, x7, x8]
theorem prog_body (n : Nat) {D : RS → Prop} (hn : 8 ≤ n) (P : PI g r t nr br mr names j k es g') (hj : j ≤ 3) : WS
  (sSeq (sAsg (gName 7) (eLst (eCons (eFn fMin (eCons (eOp2 opIx (eVar 5) (eC (.int 0))) (eCons (eOp2 opIx (eLst (eCons (eC (.int 12)) (eCons (eC (.int 24)) (eCons (eC (.int 48)) eNil)))) (eCall (CF (n + 2)) ("", "_law_pick") (eCons (eVar 2) (eCons (eC (.int 3)) eNil)))) eNil))) eNil)))
   (sSeq (sAsg (gName 8) (eOp2 opIx (eVar 7) (eC (.int 0))))
   (sSeq (sExpr (eMt isL mAppend (eVar 4) (eCons (eCall (CF (n + 2)) ("", "_law_grown") (eCons (eVar 2) (eCons (eVar 3) (eCons (eVar 6) (eCons (eOp2 opAdd (eC (.int 3)) (eCall (CF (n + 2)) ("", "_law_pick") (eCons (eVar 2) (eCons (eC (.int 6)) eNil)))) (eCons (eVar 7) eNil)))))) eNil)))
   (sSeq (sAsg (Vm.gSub (eVar 5) (eC (.int 0))) (eFn fMax (eCons (eC (.int 4)) (eCons (eOp2 opSub (eOp2 opAdd (eOp2 opSub (eOp2 opIx (eVar 5) (eC (.int 0))) (eVar 8)) (eOp2 opIx (eVar 7) (eC (.int 0)))) (eC (.int 2))) eNil))))
   (sNext))))) (pσ r t nr br mr at_ (some (.int j)) x7 x8) g' (LK (fun σ g2 => ∃ x7 x8 k es, σ = pσ r t nr br mr at_ (some (.int j)) x7 x8 ∧ PI g r t nr br mr names (j + 1) k es g2) D) := by
  obtain ⟨fr, tp, nm, bo, ⟨rm, hrm⟩, len, ok, kk, gt, gnr, gbr, gmr, n1, n2, n3, n4, n5, n6⟩ := P
  have hC : j * (90 * 4 ^ 8 + 5) ≤ 3 * (90 * 4 ^ 8 + 5) := Nat.mul_le_mul_right _ hj
  have h48 : 4 ^ 8 = 65536 := by decide
  rw [h48] at kk hC
  unfold pσ
  have J0 : GJ t nr [] names g' k g' := GJ.start tp nm (fun _ h => nomatch h) n1 (fun h => nomatch h)
  have ix : ∀ Q, O (opIx (.ref mr) (.int 0) g') Q = Q (.int rm) g' := fun Q => O_ix_l g' Q hrm (atI_ok (by decide) rfl)
  simp (decide := true) (implicitDefEqProofs := false) only [Ex.ok_words, NX_RBt, NX_SKe, NX_LKt, Q_ret, Q_expr, Q_set, Q_sub, Q_if, Q_seq, Q_next, Q_ct, Q_bk, Q_retN, LK_nx, LK_ct, LK_bk, LK_rt, W_rng1, gName, SK_nx, SK_rt, SK_bk, SK_ct, RB_nx, RB_rt, W_var0, W_varS, W_c, W_op2, W_op1, W_nil, W_cons, W_fn, W_mt, W_call, W_tup, W_lst, W_dct0, W_pn, W_part, W_sl, W_isTy, W_tru, W_bl, W_and, W_or, W_not, W_eBl, W_if, W_eAnd, W_eOr, W_yes, O_ix_0, O_ix_1, O_ix_2, O_ix_3, O_ix_4, O_eq_ss, O_ne_ss, O_eq_ii, O_ne_ii, O_in_1, O_in_2, O_in_3, O_lt, O_le, O_gt, O_ge, O_add, O_sub, O_neg, O_int, O_intb, O_lent, O_min, O_max, O_tuplet, PV.bl.injEq, PV.int.injEq, PV.str.injEq, exists_eq_left', exists_eq_left, List.set_cons_zero, List.set_cons_succ, List.length_cons, List.length_nil, if_true, if_false, Bool.false_eq_true, decide_true, decide_false, ite_true, ite_false, ix]
  refine w_pickJ (n + 1) (J0.app _) (by omega) (by decide) fun v g1 a1 b1 J1 F1 => ?_
  have at1 := F1.get (new_at (g := g')) (by have := J0.lt; simp; omega)
  refine O_some_of at1 a1 (by simpa using b1) fun x hx => ?_
  have hx' : ∃ i : Int, x = .int i := by
    simp only [List.mem_cons, List.not_mem_nil, or_false] at hx
    rcases hx with rfl | rfl | rfl <;> exact ⟨_, rfl⟩
  obtain ⟨i0, rfl⟩ := hx'
  have F01 : Fr [t] g' g1 := (Fr.app _).trans F1
  have bo1 := F01.get bo (by simp; exact n2)
  have rm1 := F01.get hrm (by simp; exact n3)
  have lt1 := (List.getElem?_eq_some_iff.mp bo1).1
  have lt2 := (List.getElem?_eq_some_iff.mp rm1).1
  have lt3 := (List.getElem?_eq_some_iff.mp J1.nm.at_).1
  have lt4 : t < g1.length := by obtain ⟨d, xs, h1, _⟩ := J1.tp; exact (List.getElem?_eq_some_iff.mp h1).1
  have g11 : g.length ≤ g1.length := Nat.le_trans fr.le F01.le
  have go : ∀ p : Int, WS (sSeq (sAsg (gName 8) (eOp2 opIx (eVar 7) (eC (.int 0))))
   (sSeq (sExpr (eMt isL mAppend (eVar 4) (eCons (eCall (CF (n + 2)) ("", "_law_grown") (eCons (eVar 2) (eCons (eVar 3) (eCons (eVar 6) (eCons (eOp2 opAdd (eC (.int 3)) (eCall (CF (n + 2)) ("", "_law_pick") (eCons (eVar 2) (eCons (eC (.int 6)) eNil)))) (eCons (eVar 7) eNil)))))) eNil)))
   (sSeq (sAsg (Vm.gSub (eVar 5) (eC (.int 0))) (eFn fMax (eCons (eC (.int 4)) (eCons (eOp2 opSub (eOp2 opAdd (eOp2 opSub (eOp2 opIx (eVar 5) (eC (.int 0))) (eVar 8)) (eOp2 opIx (eVar 7) (eC (.int 0)))) (eC (.int 2))) eNil))))
   (sNext)))) (pσ r t nr br mr at_ (some (.int j)) (some (.ref g1.length)) x8) (g1 ++ [.lst [.int p]]) (LK (fun σ g2 => ∃ x7 x8 k es, σ = pσ r t nr br mr at_ (some (.int j)) x7 x8 ∧ PI g r t nr br mr names (j + 1) k es g2) D) := by
    intro p
    have J2 : GJ t nr [g1.length] names (g1 ++ [.lst [.int p]]) (k + 1) (g1 ++ [.lst [.int p]]) := GJ.start (J1.tp.app _) (J1.app _).nm (fun q hq => by rw [List.mem_singleton.mp hq]; exact ⟨p, new_at⟩) n1 (fun q => by have := List.mem_singleton.mp q; omega)
    have bo2 : (g1 ++ [GO.lst [PV.int p]])[br]? = some (.lst (es.map Ex.pv)) := (Fr.app (S := []) _).get bo1 (by simp)
    have rm2 : (g1 ++ [GO.lst [PV.int p]])[mr]? = some (.lst [.int rm]) := (Fr.app (S := []) _).get rm1 (by simp)
    unfold pσ
    simp (decide := true) (implicitDefEqProofs := false) only [Ex.ok_words, NX_RBt, NX_SKe, NX_LKt, Q_ret, Q_expr, Q_set, Q_sub, Q_if, Q_seq, Q_next, Q_ct, Q_bk, Q_retN, LK_nx, LK_ct, LK_bk, LK_rt, W_rng1, gName, SK_nx, SK_rt, SK_bk, SK_ct, RB_nx, RB_rt, W_var0, W_varS, W_c, W_op2, W_op1, W_nil, W_cons, W_fn, W_mt, W_call, W_tup, W_lst, W_dct0, W_pn, W_part, W_sl, W_isTy, W_tru, W_bl, W_and, W_or, W_not, W_eBl, W_if, W_eAnd, W_eOr, W_yes, O_ix_0, O_ix_1, O_ix_2, O_ix_3, O_ix_4, O_eq_ss, O_ne_ss, O_eq_ii, O_ne_ii, O_in_1, O_in_2, O_in_3, O_lt, O_le, O_gt, O_ge, O_add, O_sub, O_neg, O_int, O_intb, O_lent, O_min, O_max, O_tuplet, PV.bl.injEq, PV.int.injEq, PV.str.injEq, exists_eq_left', exists_eq_left, List.set_cons_zero, List.set_cons_succ, List.length_cons, List.length_nil, if_true, if_false, Bool.false_eq_true, decide_true, decide_false, ite_true, ite_false, O_ix_l _ _ new_at (atI_ok (i := 0) (l := [PV.int p]) (v := .int p) (by decide) rfl), isL_ok _ bo2]
    refine w_pickJ (n + 1) J2 (by omega) (by decide) fun v3 g3 a3 b3 J3 F3 => ?_
    obtain ⟨d, hd⟩ : ∃ d : Nat, 3 + v3 = (d : Int) := ⟨(3 + v3).toNat, by omega⟩
    have h4d : 4 ^ d ≤ 4 ^ 8 := Nat.pow_le_pow_right (by decide) (by omega)
    rw [h48] at h4d
    refine w_grown d n (i := 3 + v3) hd (by omega) (by omega) (by omega) (by simp) J3.here (by omega) fun e k4 g4 he h5 h6 J4 => ?_
    have J34 := J3.then J4 fun _ h => h
    have nb : br ∉ [t, g1.length] := by simp; omega
    have nm_ : mr ∉ [t, g1.length] := by simp; omega
    have bo4 := J34.fr.get bo2 nb
    have rm4 := J34.fr.get rm2 nm_
    obtain ⟨p4, hp4⟩ := J34.rm g1.length (by simp)
    rw [O_app _ _ bo4 (by rw [List.length_map, len]; unfold big; omega)]
    generalize hg5 : g4.set br (.lst (es.map Ex.pv ++ [e.pv])) = g5
    have lb4 := (List.getElem?_eq_some_iff.mp bo4).1
    have bo5 : g5[br]? = some (.lst ((es ++ [e]).map Ex.pv)) := by rw [← hg5, List.getElem?_set_self lb4]; simp
    have F45 : Fr [br] g4 g5 := by rw [← hg5]; exact Fr.set _ (by simp)
    have rm5 := F45.get rm4 (by simp; omega)
    have p5 := F45.get hp4 (by simp; omega)
    have st : ∀ v, Vm.gSub (eVar 5) (eC (.int 0)) v (pσ r t nr br mr at_ (some (.int j)) (some (.ref g1.length)) (some (.int p))) g5 = some (pσ r t nr br mr at_ (some (.int j)) (some (.ref g1.length)) (some (.int p)), g5.set mr (.lst [v])) := fun v => gSub_room rfl rm5
    unfold pσ at st
    simp (decide := true) (implicitDefEqProofs := false) only [Ex.ok_words, NX_RBt, NX_SKe, NX_LKt, Q_ret, Q_expr, Q_set, Q_sub, Q_if, Q_seq, Q_next, Q_ct, Q_bk, Q_retN, LK_nx, LK_ct, LK_bk, LK_rt, W_rng1, gName, SK_nx, SK_rt, SK_bk, SK_ct, RB_nx, RB_rt, W_var0, W_varS, W_c, W_op2, W_op1, W_nil, W_cons, W_fn, W_mt, W_call, W_tup, W_lst, W_dct0, W_pn, W_part, W_sl, W_isTy, W_tru, W_bl, W_and, W_or, W_not, W_eBl, W_if, W_eAnd, W_eOr, W_yes, O_ix_0, O_ix_1, O_ix_2, O_ix_3, O_ix_4, O_eq_ss, O_ne_ss, O_eq_ii, O_ne_ii, O_in_1, O_in_2, O_in_3, O_lt, O_le, O_gt, O_ge, O_add, O_sub, O_neg, O_int, O_intb, O_lent, O_min, O_max, O_tuplet, PV.bl.injEq, PV.int.injEq, PV.str.injEq, exists_eq_left', exists_eq_left, List.set_cons_zero, List.set_cons_succ, List.length_cons, List.length_nil, if_true, if_false, Bool.false_eq_true, decide_true, decide_false, ite_true, ite_false, O_ix_l _ _ rm5 (atI_ok (i := 0) (v := .int rm) (by decide) rfl), O_ix_l _ _ p5 (atI_ok (i := 0) (v := .int p4) (by decide) rfl), st]
    generalize (if rm - p + p4 - 2 > 4 then rm - p + p4 - 2 else (4 : Int)) = r6
    have lm5 := (List.getElem?_eq_some_iff.mp rm5).1
    refine ⟨_, _, k4, es ++ [e], rfl, ?_⟩
    have F56 : Fr [mr] g5 (g5.set mr (.lst [.int r6])) := Fr.set _ (by simp)
    have F06 : Fr [] g (g5.set mr (.lst [.int r6])) := by
      refine ⟨?_, fun i hi _ => ?_⟩
      · have h1 := F56.le
        have h2 := F45.le
        have h3 := J34.fr.le
        simp at h3
        omega
      · rw [F56.at_ i (by have h2 := F45.le; have h3 := J34.fr.le; simp at h3; omega) (by simp; omega), F45.at_ i (by have h3 := J34.fr.le; simp at h3; omega) (by simp; omega), J34.fr.at_ i (by simp; omega) (by simp; omega), List.getElem?_append_left (by omega), F01.at_ i (by have := fr.le; omega) (by simp; omega), fr.at_ i hi (by simp)]
    have T5 : TP t k4 g5 := J34.tp.keep F45 fun d o hd2 ho q => by
      have q' := List.mem_singleton.mp q
      subst q'
      rcases ho with rfl | ⟨m, rfl, hm⟩
      · exact n2 rfl
      · rw [bo4] at hd2
        cases hd2
        rw [List.length_map, len] at hm
        omega
    have T6 : TP t k4 (g5.set mr (.lst [.int r6])) := T5.keep F56 fun d o hd2 ho q => by
      have q' := List.mem_singleton.mp q
      subst q'
      rcases ho with rfl | ⟨m, rfl, hm⟩
      · exact n3 rfl
      · rw [rm5] at hd2
        cases hd2
        simp at hm
    refine ⟨F06, T6, ⟨F56.get (F45.get J34.nm.at_ (by simp; omega)) (by simp; omega), J34.nm.ne, J34.nm.le, J34.nm.ok⟩, F56.get bo5 (by simp; omega), ⟨r6, List.getElem?_set_self lm5⟩, by simp [len], ?_, ?_, gt, gnr, gbr, gmr, n1, n2, n3, n4, n5, n6⟩
    · intro j2 e2 h2
      by_cases hj2 : j2 < es.length
      · rw [List.getElem?_append_left hj2] at h2
        exact ok j2 e2 h2
      · have h7 : j2 - es.length = 0 := by
          have := (List.getElem?_eq_some_iff.mp h2).1
          simp at this
          omega
        rw [List.getElem?_append_right (by omega), h7] at h2
        cases h2
        have : j2 = j := by omega
        subst this
        exact he.mono (by omega)
    · rw [h48, Nat.succ_mul]
      omega
  have := go (if i0 < rm then i0 else rm)
  unfold pσ at this
  simp (decide := true) (implicitDefEqProofs := false) only [Ex.ok_words, NX_RBt, NX_SKe, NX_LKt, Q_ret, Q_expr, Q_set, Q_sub, Q_if, Q_seq, Q_next, Q_ct, Q_bk, Q_retN, LK_nx, LK_ct, LK_bk, LK_rt, W_rng1, gName, SK_nx, SK_rt, SK_bk, SK_ct, RB_nx, RB_rt, W_var0, W_varS, W_c, W_op2, W_op1, W_nil, W_cons, W_fn, W_mt, W_call, W_tup, W_lst, W_dct0, W_pn, W_part, W_sl, W_isTy, W_tru, W_bl, W_and, W_or, W_not, W_eBl, W_if, W_eAnd, W_eOr, W_yes, O_ix_0, O_ix_1, O_ix_2, O_ix_3, O_ix_4, O_eq_ss, O_ne_ss, O_eq_ii, O_ne_ii, O_in_1, O_in_2, O_in_3, O_lt, O_le, O_gt, O_ge, O_add, O_sub, O_neg, O_int, O_intb, O_lent, O_min, O_max, O_tuplet, PV.bl.injEq, PV.int.injEq, PV.str.injEq, exists_eq_left', exists_eq_left, List.set_cons_zero, List.set_cons_succ, List.length_cons, List.length_nil, if_true, if_false, Bool.false_eq_true, decide_true, decide_false, ite_true, ite_false] at this
  exact this
end
theorem w_law_a_program (n : Nat) {r : Nat} {ns : List Int} {at_ : Nat} {g : G} {Q : PV → G → Prop} (hn : 8 ≤ n) (h : g[r]? = some (.rol (ns.map .int))) (q : ∀ es g', Prog es → Fr [] g g' → Q (.tup (es.map Ex.pv)) g') : WC (CF (n + 3)) ("", "_law_a_program") [.ref r, .int at_] g Q := by
  refine wc_body (c_law_a_program (n + 2) _ _ g) ?_
  rw [u_law_a_program]
  simp (decide := true) (implicitDefEqProofs := false) only [t_law_a_program_0, Ex.ok_words, NX_RBt, NX_SKe, NX_LKt, Q_ret, Q_expr, Q_set, Q_sub, Q_if, Q_seq, Q_next, Q_ct, Q_bk, Q_retN, LK_nx, LK_ct, LK_bk, LK_rt, W_rng1, gName, SK_nx, SK_rt, SK_bk, SK_ct, RB_nx, RB_rt, W_var0, W_varS, W_c, W_op2, W_op1, W_nil, W_cons, W_fn, W_mt, W_call, W_tup, W_lst, W_dct0, W_pn, W_part, W_sl, W_isTy, W_tru, W_bl, W_and, W_or, W_not, W_eBl, W_if, W_eAnd, W_eOr, W_yes, O_ix_0, O_ix_1, O_ix_2, O_ix_3, O_ix_4, O_eq_ss, O_ne_ss, O_eq_ii, O_ne_ii, O_in_1, O_in_2, O_in_3, O_lt, O_le, O_gt, O_ge, O_add, O_sub, O_neg, O_int, O_intb, O_lent, O_min, O_max, O_tuplet, PV.bl.injEq, PV.int.injEq, PV.str.injEq, exists_eq_left', exists_eq_left, List.set_cons_zero, List.set_cons_succ, List.length_cons, List.length_nil, if_true, if_false, Bool.false_eq_true, decide_true, decide_false, ite_true, ite_false]
  refine w_a_tape n h fun xs h1 h2 => ?_
  generalize hg1 : g ++ [GO.lst (xs.map .int), GO.lst [PV.ref g.length, PV.int 0]] = g1
  have F1 : Fr [] g g1 := by rw [← hg1]; exact Fr.app _
  have T1 : TP (g.length + 1) 0 g1 := by
    rw [← hg1]
    exact ⟨g.length, xs, by simp, by simp, h1, h2, by omega⟩
  have l1 : g1.length = g.length + 2 := by rw [← hg1]; simp
  generalize ht : g.length + 1 = t at T1
  simp (decide := true) (implicitDefEqProofs := false) only [t_law_a_program_1, t_law_a_program_2, Ex.ok_words, NX_RBt, NX_SKe, NX_LKt, Q_ret, Q_expr, Q_set, Q_sub, Q_if, Q_seq, Q_next, Q_ct, Q_bk, Q_retN, LK_nx, LK_ct, LK_bk, LK_rt, W_rng1, gName, SK_nx, SK_rt, SK_bk, SK_ct, RB_nx, RB_rt, W_var0, W_varS, W_c, W_op2, W_op1, W_nil, W_cons, W_fn, W_mt, W_call, W_tup, W_lst, W_dct0, W_pn, W_part, W_sl, W_isTy, W_tru, W_bl, W_and, W_or, W_not, W_eBl, W_if, W_eAnd, W_eOr, W_yes, O_ix_0, O_ix_1, O_ix_2, O_ix_3, O_ix_4, O_eq_ss, O_ne_ss, O_eq_ii, O_ne_ii, O_in_1, O_in_2, O_in_3, O_lt, O_le, O_gt, O_ge, O_add, O_sub, O_neg, O_int, O_intb, O_lent, O_min, O_max, O_tuplet, PV.bl.injEq, PV.int.injEq, PV.str.injEq, exists_eq_left', exists_eq_left, List.set_cons_zero, List.set_cons_succ, List.length_cons, List.length_nil, if_true, if_false, Bool.false_eq_true, decide_true, decide_false, ite_true, ite_false]
  refine w_pick (n + 1) (((((T1.app _).app _).app _).app _).app _) (by omega) (by decide) fun v g2 a2 b2 T2 F2 hl2 => ?_
  have k5 := F2.get (new_at (g := g1 ++ _ ++ _ ++ _ ++ _)) (by simp; omega)
  have k1 : g2[g1.length]? = some (.lst [.str "a", .str "b", .str "x"]) := F2.get (by simp) (by simp; omega)
  have k2 : g2[(g1 ++ [GO.lst [.str "a", .str "b", .str "x"]]).length]? = some (.lst [.str "x", .str "k", .str "kk", .str "kkk"]) := F2.get (by simp) (by simp; omega)
  have k3 : g2[(g1 ++ [GO.lst [.str "a", .str "b", .str "x"]] ++ [GO.lst [.str "x", .str "k", .str "kk", .str "kkk"]]).length]? = some (.lst [.str "abcdefgh", .str "abcdefgx", .str "x"]) := F2.get (by simp) (by simp; omega)
  have k4 : g2[(g1 ++ [GO.lst [.str "a", .str "b", .str "x"]] ++ [GO.lst [.str "x", .str "k", .str "kk", .str "kkk"]] ++ [GO.lst [.str "abcdefgh", .str "abcdefgx", .str "x"]]).length]? = some (.lst [.str "on", .str "x", .str "no"]) := F2.get (by simp) (by simp; omega)
  refine O_some_of k5 a2 (by simpa using b2) fun x hx => ?_
  have hx' : ∃ nr names, x = .ref nr ∧ NM nr names g2 ∧ g1.length ≤ nr ∧ nr < g2.length := by
    simp only [List.mem_cons, List.not_mem_nil, or_false] at hx
    rcases hx with rfl | rfl | rfl | rfl
    · exact ⟨_, ["a", "b", "x"], rfl, ⟨k1, by decide, by decide, by decide +kernel⟩, by simp, (List.getElem?_eq_some_iff.mp k1).1⟩
    · exact ⟨_, ["x", "k", "kk", "kkk"], rfl, ⟨k2, by decide, by decide, by decide +kernel⟩, by simp, (List.getElem?_eq_some_iff.mp k2).1⟩
    · exact ⟨_, ["abcdefgh", "abcdefgx", "x"], rfl, ⟨k3, by decide, by decide, by decide +kernel⟩, by simp <;> omega, (List.getElem?_eq_some_iff.mp k3).1⟩
    · exact ⟨_, ["on", "x", "no"], rfl, ⟨k4, by decide, by decide, by decide +kernel⟩, by simp <;> omega, (List.getElem?_eq_some_iff.mp k4).1⟩
  obtain ⟨nr, names, rfl, N2, hnr, hnr2⟩ := hx'
  have F02 : Fr [] g g2 := by
    refine ⟨by have := F2.le; simp at this; omega, fun i hi _ => ?_⟩
    rw [F2.at_ i (by simp; omega) (by simp; omega)]
    have := F1.at_ i hi (by simp)
    rw [← this, List.append_assoc, List.append_assoc, List.append_assoc, List.append_assoc, List.getElem?_append_left (by omega)]
  clear k1 k2 k3 k4 k5 F2 hx
  simp (decide := true) (implicitDefEqProofs := false) only [t_law_a_program_3, t_law_a_program_4, t_law_a_program_5, Q_seq, Q_set, NX_RBt, NX_SKe, SK_nx, gName, List.set_cons_zero, List.set_cons_succ, W_lst, W_nil, W_cons, W_c, List.length_nil, List.length_cons, if_true]
  have lt2 : t < g2.length := by omega
  generalize hg4 : g2 ++ [GO.lst []] ++ [GO.lst [PV.int 64]] = g4
  have e4 : g4 = g2 ++ [GO.lst [], GO.lst [PV.int 64]] := by rw [← hg4]; simp
  have P4 : PI g r t nr g2.length (g2.length + 1) names 0 1 [] g4 := by
    rw [e4]
    exact ⟨F02.trans (Fr.app _), T2.app _, ⟨(Fr.app (S := []) _).get N2.at_ (by simp), N2.ne, N2.le, N2.ok⟩, by simp, ⟨64, by simp⟩, rfl, fun j e h => by simp at h, by omega, by omega, by omega, by omega, by omega, by omega⟩
  have el : (g2 ++ [GO.lst []]).length = g2.length + 1 := by simp
  rw [el]
  generalize hσ : [some (PV.ref r), some (PV.int at_), some (PV.ref t), some (PV.ref nr), some (PV.ref g2.length), some (PV.ref (g2.length + 1)), none, none, none] = σ0
  refine wp_for2 ?_
  have J4 : GJ t nr [] names g4 1 g4 := GJ.start P4.tp P4.nm (fun _ h => nomatch h) P4.ne.1 (fun h => nomatch h)
  rw [W_rng1]
  have in_ : ∀ v : Int, 0 ≤ v → v < 4 → in62 (1 + v) = true := fun v h1 h2 => by unfold in62; simp; omega
  subst hσ
  simp (decide := true) (implicitDefEqProofs := false) only [Ex.ok_words, NX_RBt, NX_SKe, NX_LKt, Q_ret, Q_expr, Q_set, Q_sub, Q_if, Q_seq, Q_next, Q_ct, Q_bk, Q_retN, LK_nx, LK_ct, LK_bk, LK_rt, W_rng1, gName, SK_nx, SK_rt, SK_bk, SK_ct, RB_nx, RB_rt, W_var0, W_varS, W_c, W_op2, W_op1, W_nil, W_cons, W_fn, W_mt, W_call, W_tup, W_lst, W_dct0, W_pn, W_part, W_sl, W_isTy, W_tru, W_bl, W_and, W_or, W_not, W_eBl, W_if, W_eAnd, W_eOr, W_yes, O_ix_0, O_ix_1, O_ix_2, O_ix_3, O_ix_4, O_eq_ss, O_ne_ss, O_eq_ii, O_ne_ii, O_in_1, O_in_2, O_in_3, O_lt, O_le, O_gt, O_ge, O_add, O_sub, O_neg, O_int, O_intb, O_lent, O_min, O_max, O_tuplet, PV.bl.injEq, PV.int.injEq, PV.str.injEq, exists_eq_left', exists_eq_left, List.set_cons_zero, List.set_cons_succ, List.length_cons, List.length_nil, if_true, if_false, Bool.false_eq_true, decide_true, decide_false, ite_true, ite_false]
  refine w_pickJ (n + 1) J4 (by omega) (by decide) fun v6 g6 a6 b6 J6 F6 => ?_
  simp (decide := true) (implicitDefEqProofs := false) only [Ex.ok_words, NX_RBt, NX_SKe, NX_LKt, Q_ret, Q_expr, Q_set, Q_sub, Q_if, Q_seq, Q_next, Q_ct, Q_bk, Q_retN, LK_nx, LK_ct, LK_bk, LK_rt, W_rng1, gName, SK_nx, SK_rt, SK_bk, SK_ct, RB_nx, RB_rt, W_var0, W_varS, W_c, W_op2, W_op1, W_nil, W_cons, W_fn, W_mt, W_call, W_tup, W_lst, W_dct0, W_pn, W_part, W_sl, W_isTy, W_tru, W_bl, W_and, W_or, W_not, W_eBl, W_if, W_eAnd, W_eOr, W_yes, O_ix_0, O_ix_1, O_ix_2, O_ix_3, O_ix_4, O_eq_ss, O_ne_ss, O_eq_ii, O_ne_ii, O_in_1, O_in_2, O_in_3, O_lt, O_le, O_gt, O_ge, O_add, O_sub, O_neg, O_int, O_intb, O_lent, O_min, O_max, O_tuplet, PV.bl.injEq, PV.int.injEq, PV.str.injEq, exists_eq_left', exists_eq_left, List.set_cons_zero, List.set_cons_succ, List.length_cons, List.length_nil, if_true, if_false, Bool.false_eq_true, decide_true, decide_false, ite_true, ite_false]
  refine ⟨in_ v6 a6 b6, ?_⟩
  have P6 : PI g r t nr g2.length (g2.length + 1) names 0 2 [] g6 := by
    obtain ⟨fr, tp, nm, bo, ⟨rm, hrm⟩, len, ok, kk, gt, gnr, gbr, gmr, n1, n2, n3, n4, n5, n6⟩ := P4
    refine ⟨?_, J6.tp, J6.nm, F6.get bo (by simp; exact n2), ⟨rm, F6.get hrm (by simp; exact n3)⟩, len, ok, by omega, gt, gnr, gbr, gmr, n1, n2, n3, n4, n5, n6⟩
    refine ⟨Nat.le_trans fr.le F6.le, fun i hi _ => ?_⟩
    rw [F6.at_ i (by have := fr.le; omega) (by simp; omega), fr.at_ i hi (by simp)]
  obtain ⟨m, hm⟩ : ∃ m : Nat, 1 + v6 = (m : Int) := ⟨(1 + v6).toNat, by omega⟩
  rw [hm, Int.toNat_natCast]
  generalize hσ : [some (PV.ref r), some (PV.int at_), some (PV.ref t), some (PV.ref nr), some (PV.ref g2.length), some (PV.ref (g2.length + 1)), none, none, none] = σ0
  refine loop_rng (fun j σ g' => ∃ x6 x7 x8 k es, σ = pσ r t nr g2.length (g2.length + 1) at_ x6 x7 x8 ∧ PI g r t nr g2.length (g2.length + 1) names j k es g') ⟨none, none, none, 2, [], hσ.symm, P6⟩ ?_ ?_
  · rintro j σ g' hj ⟨x6, x7, x8, k, es, rfl, P⟩
    have := prog_body n (D := SK (t_law_a_program_6 (CF (n + 2))) (RB Q)) (at_ := at_) (x7 := x7) (x8 := x8) hn P (by omega)
    exact WS_mono this (LK_mono fun σ2 g2 ⟨a, b, c, d, e, f⟩ => ⟨_, a, b, c, d, e, f⟩)
  · rintro σ g' ⟨x6, x7, x8, k, es, rfl, P⟩
    rw [SK_nx]
    have hd9 : ∀ e ∈ es, e.dep ≤ n + 1 := fun e he => by
      obtain ⟨j, hj⟩ := List.getElem?_of_mem he
      have := (P.ok j e hj).dp
      omega
    have l4 : es.length ≤ 4 := by have := P.len; omega
    have l1 : 1 ≤ es.length := by have := P.len; omega
    unfold t_law_a_program_6
    rw [Q_seq, Q_if (NX_SK (n := t_law_a_program_7 (CF (n + 2))) (NX_RB (Q := Q))), W_bl, W_op2]
    refine w_counts (n + 1) (by omega) hd9 ?_ (fun m => ?_) (by simp [pσ])
    · rw [W_bs, W_var _ _ _ _ (.ref g2.length) rfl, bs_ref P.bo]
      exact ⟨items_ref P.bo, [], by simp⟩
    have bo7 : (g' ++ m)[g2.length]? = some (.lst (es.map Ex.pv)) := (Fr.app (S := []) _).get P.bo (by simp)
    have dp8 : ∀ e ∈ es, e.dep ≤ 8 := fun e he => by
      obtain ⟨j, hj⟩ := List.getElem?_of_mem he
      exact (P.ok j e hj).dp
    by_cases h80 : (80 : Int) < (es.map Ex.count).sum
    · obtain ⟨e0, es', rfl⟩ : ∃ e0 es', es = e0 :: es' := match es, l1 with | e0 :: es', _ => ⟨e0, es', rfl⟩
      have ok0 := P.ok 0 e0 rfl
      have ix0 : ∀ g Q, g[g2.length]? = some (.lst ((e0 :: es').map Ex.pv)) → O (opIx (.ref g2.length) (.int 0) g) Q = Q e0.pv g := fun g Q h => O_ix_l g Q h (atI_ok (by decide) rfl)
      unfold pσ
      simp (decide := true) (implicitDefEqProofs := false) only [Ex.ok_words, NX_RBt, NX_SKe, NX_LKt, Q_ret, Q_expr, Q_set, Q_sub, Q_if, Q_seq, Q_next, Q_ct, Q_bk, Q_retN, LK_nx, LK_ct, LK_bk, LK_rt, W_rng1, gName, SK_nx, SK_rt, SK_bk, SK_ct, RB_nx, RB_rt, W_var0, W_varS, W_c, W_op2, W_op1, W_nil, W_cons, W_fn, W_mt, W_call, W_tup, W_lst, W_dct0, W_pn, W_part, W_sl, W_isTy, W_tru, W_bl, W_and, W_or, W_not, W_eBl, W_if, W_eAnd, W_eOr, W_yes, O_ix_0, O_ix_1, O_ix_2, O_ix_3, O_ix_4, O_eq_ss, O_ne_ss, O_eq_ii, O_ne_ii, O_in_1, O_in_2, O_in_3, O_lt, O_le, O_gt, O_ge, O_add, O_sub, O_neg, O_int, O_intb, O_lent, O_min, O_max, O_tuplet, PV.bl.injEq, PV.int.injEq, PV.str.injEq, exists_eq_left', exists_eq_left, List.set_cons_zero, List.set_cons_succ, List.length_cons, List.length_nil, if_true, if_false, Bool.false_eq_true, decide_true, decide_false, ite_true, ite_false, h80, ix0 _ _ bo7]
      refine w_count (n + 1) e0 (hd9 e0 (by simp)) fun m2 => ?_
      by_cases hc : e0.count < 81
      · simp (decide := true) (implicitDefEqProofs := false) only [Ex.ok_words, NX_RBt, NX_SKe, NX_LKt, Q_ret, Q_expr, Q_set, Q_sub, Q_if, Q_seq, Q_next, Q_ct, Q_bk, Q_retN, LK_nx, LK_ct, LK_bk, LK_rt, W_rng1, gName, SK_nx, SK_rt, SK_bk, SK_ct, RB_nx, RB_rt, W_var0, W_varS, W_c, W_op2, W_op1, W_nil, W_cons, W_fn, W_mt, W_call, W_tup, W_lst, W_dct0, W_pn, W_part, W_sl, W_isTy, W_tru, W_bl, W_and, W_or, W_not, W_eBl, W_if, W_eAnd, W_eOr, W_yes, O_ix_0, O_ix_1, O_ix_2, O_ix_3, O_ix_4, O_eq_ss, O_ne_ss, O_eq_ii, O_ne_ii, O_in_1, O_in_2, O_in_3, O_lt, O_le, O_gt, O_ge, O_add, O_sub, O_neg, O_int, O_intb, O_lent, O_min, O_max, O_tuplet, PV.bl.injEq, PV.int.injEq, PV.str.injEq, exists_eq_left', exists_eq_left, List.set_cons_zero, List.set_cons_succ, List.length_cons, List.length_nil, if_true, if_false, Bool.false_eq_true, decide_true, decide_false, ite_true, ite_false, hc, O_mul_one, tru, List.isEmpty_cons, Bool.not_false]
        have Pr : Prog [e0] := ⟨by simp, by simp, fun j e h => by
          cases j with
          | zero => cases h; exact ok0.ok
          | succ j => simp at h, fun e h => by rw [List.mem_singleton.mp h]; exact ok0.dp, by simp; omega⟩
        have := q [e0] (g' ++ m ++ m2) Pr (P.fr.trans ((Fr.app m).trans (Fr.app m2)))
        simpa using this
      · simp (decide := true) (implicitDefEqProofs := false) only [Ex.ok_words, NX_RBt, NX_SKe, NX_LKt, Q_ret, Q_expr, Q_set, Q_sub, Q_if, Q_seq, Q_next, Q_ct, Q_bk, Q_retN, LK_nx, LK_ct, LK_bk, LK_rt, W_rng1, gName, SK_nx, SK_rt, SK_bk, SK_ct, RB_nx, RB_rt, W_var0, W_varS, W_c, W_op2, W_op1, W_nil, W_cons, W_fn, W_mt, W_call, W_tup, W_lst, W_dct0, W_pn, W_part, W_sl, W_isTy, W_tru, W_bl, W_and, W_or, W_not, W_eBl, W_if, W_eAnd, W_eOr, W_yes, O_ix_0, O_ix_1, O_ix_2, O_ix_3, O_ix_4, O_eq_ss, O_ne_ss, O_eq_ii, O_ne_ii, O_in_1, O_in_2, O_in_3, O_lt, O_le, O_gt, O_ge, O_add, O_sub, O_neg, O_int, O_intb, O_lent, O_min, O_max, O_tuplet, PV.bl.injEq, PV.int.injEq, PV.str.injEq, exists_eq_left', exists_eq_left, List.set_cons_zero, List.set_cons_succ, List.length_cons, List.length_nil, if_true, if_false, Bool.false_eq_true, decide_true, decide_false, ite_true, ite_false, hc, O_mul_zero, tru, List.isEmpty_nil, Bool.not_true]
        have Pr : Prog [.fault "a" .read] := ⟨by simp, by simp, fun j e h => by
          cases j with
          | zero => cases h; decide +kernel
          | succ j => simp at h, fun e h => by rw [List.mem_singleton.mp h]; decide, by decide⟩
        have := q _ (g' ++ m ++ m2) Pr (P.fr.trans ((Fr.app m).trans (Fr.app m2)))
        simpa [Ex.pv] using this
    · unfold pσ
      simp (decide := true) (implicitDefEqProofs := false) only [t_law_a_program_7, Ex.ok_words, NX_RBt, NX_SKe, NX_LKt, Q_ret, Q_expr, Q_set, Q_sub, Q_if, Q_seq, Q_next, Q_ct, Q_bk, Q_retN, LK_nx, LK_ct, LK_bk, LK_rt, W_rng1, gName, SK_nx, SK_rt, SK_bk, SK_ct, RB_nx, RB_rt, W_var0, W_varS, W_c, W_op2, W_op1, W_nil, W_cons, W_fn, W_mt, W_call, W_tup, W_lst, W_dct0, W_pn, W_part, W_sl, W_isTy, W_tru, W_bl, W_and, W_or, W_not, W_eBl, W_if, W_eAnd, W_eOr, W_yes, O_ix_0, O_ix_1, O_ix_2, O_ix_3, O_ix_4, O_eq_ss, O_ne_ss, O_eq_ii, O_ne_ii, O_in_1, O_in_2, O_in_3, O_lt, O_le, O_gt, O_ge, O_add, O_sub, O_neg, O_int, O_intb, O_lent, O_min, O_max, O_tuplet, PV.bl.injEq, PV.int.injEq, PV.str.injEq, exists_eq_left', exists_eq_left, List.set_cons_zero, List.set_cons_succ, List.length_cons, List.length_nil, if_true, if_false, Bool.false_eq_true, decide_true, decide_false, ite_true, ite_false, h80, O_tuplel _ _ (seq_l _ bo7)]
      refine q es (g' ++ m) ⟨l1, l4, fun j e h => (P.ok j e h).ok, dp8, by omega⟩ (P.fr.trans (Fr.app m))
end K19
end

section
set_option maxRecDepth 100000
set_option maxHeartbeats 1000000
/-! the law's own look at a program: True of programs -/
namespace K19
open PySem Vm

theorem w_l_whole (n : Nat) {i : Int} {g : G} {Q : PV → G → Prop} (q : Q (.bl true) g) : WC (CF (n + 1)) ("", "_law_whole") [.int i] g Q := by
  refine wc_body (c_law_whole n _ g) ?_
  simp (decide := true) (implicitDefEqProofs := false) only [b_law_whole, Ex.ok_words, NX_RBt, NX_SKe, NX_LKt, Q_ret, Q_expr, Q_set, Q_sub, Q_if, Q_seq, Q_next, Q_ct, Q_bk, Q_retN, LK_nx, LK_ct, LK_bk, LK_rt, W_rng1, gName, SK_nx, SK_rt, SK_bk, SK_ct, RB_nx, RB_rt, W_var0, W_varS, W_c, W_op2, W_op1, W_nil, W_cons, W_fn, W_mt, W_call, W_tup, W_lst, W_dct0, W_pn, W_part, W_sl, W_isTy, W_tru, W_bl, W_and, W_or, W_not, W_eBl, W_if, W_eAnd, W_eOr, W_yes, O_ix_0, O_ix_1, O_ix_2, O_ix_3, O_ix_4, O_eq_ss, O_ne_ss, O_eq_ii, O_ne_ii, O_in_1, O_in_2, O_in_3, O_lt, O_le, O_gt, O_ge, O_add, O_sub, O_neg, O_int, O_intb, O_lent, O_min, O_max, O_tuplet, PV.bl.injEq, PV.int.injEq, PV.str.injEq, exists_eq_left', exists_eq_left, List.set_cons_zero, List.set_cons_succ, List.length_cons, List.length_nil, if_true, if_false, Bool.false_eq_true, decide_true, decide_false, ite_true, ite_false, isTy, tru, beq_self_eq_true, Bool.not_false]
  first | exact q | simpa [isTy, tru, W, SK, RB] using q
theorem w_l_is_name (n : Nat) {x : Str} {g : G} {Q : PV → G → Prop} (hx : nameOk x = true) (q : ∀ m, Q (.bl true) (g ++ m)) : WC (CF (n + 1)) ("", "_law_is_name") [.str x] g Q := by
  refine wc_body (c_law_is_name n _ g) ?_
  have hx' := hx
  unfold nameOk at hx
  simp only [Bool.and_eq_true, decide_eq_true_eq, List.all_eq_true] at hx
  obtain ⟨⟨⟨h1, h8⟩, ha⟩, hs⟩ := hx
  have hl : ∀ g Q, O (fLen [.str x] g) Q = Q (.int x.length) g := fun g Q => O_lens g Q x (by unfold big; omega)
  have e1 : decide ((x.length : Int) < 1) = false := by simp; omega
  have e2 : decide ((8 : Int) < (x.length : Int)) = false := by simp; omega
  have e3 : ∀ g, isTy "str" (.str x) g = some true := fun g => by simp [isTy]
  simp (decide := true) (implicitDefEqProofs := false) only [b_law_is_name, Ex.ok_words, NX_RBt, NX_SKe, NX_LKt, Q_ret, Q_expr, Q_set, Q_sub, Q_if, Q_seq, Q_next, Q_ct, Q_bk, Q_retN, LK_nx, LK_ct, LK_bk, LK_rt, W_rng1, gName, SK_nx, SK_rt, SK_bk, SK_ct, RB_nx, RB_rt, W_var0, W_varS, W_c, W_op2, W_op1, W_nil, W_cons, W_fn, W_mt, W_call, W_tup, W_lst, W_dct0, W_pn, W_part, W_sl, W_isTy, W_tru, W_bl, W_and, W_or, W_not, W_eBl, W_if, W_eAnd, W_eOr, W_yes, O_ix_0, O_ix_1, O_ix_2, O_ix_3, O_ix_4, O_eq_ss, O_ne_ss, O_eq_ii, O_ne_ii, O_in_1, O_in_2, O_in_3, O_lt, O_le, O_gt, O_ge, O_add, O_sub, O_neg, O_int, O_intb, O_lent, O_min, O_max, O_tuplet, PV.bl.injEq, PV.int.injEq, PV.str.injEq, exists_eq_left', exists_eq_left, List.set_cons_zero, List.set_cons_succ, List.length_cons, List.length_nil, if_true, if_false, Bool.false_eq_true, decide_true, decide_false, ite_true, ite_false, e3, tru, hl, e1, e2, Bool.not_true]
  obtain ⟨m, h⟩ := eComp_pure (it := iBs (eVar 0)) (vs := [1]) (tg := gName 1) (t := tBl (eOp2 opNotIn (eVar 1) (eC (.str "abcdefghijklmnopqrstuvwxyz")))) (e := eVar 1) (σ := [some (.str x), none]) (L := signs x) (g := g) (g1 := g) (fun v => match v with | .str a => !(inS a letters) | _ => false) id (src := .bs (.str x))
    rfl (fun g => ⟨rfl, fun _ _ => rfl⟩) (by simp only [signs, List.length_map]; show x.cps.size ≤ big; have : x.cps.size = x.length := rfl; unfold big; omega) fun v g' hv => by
      obtain ⟨c, hc, rfl⟩ := List.mem_map.mp hv
      exact ⟨[some (.str x), some (.str ⟨#[c]⟩)], [], rfl, by simp [tBl, eOp2, eVar, eC, ME.bind, ME.ret, liftO, opNotIn, opIn, letters], fun _ => ⟨[], by simp [eVar]⟩⟩
  have hf : (signs x).filter (fun v => match v with | .str a => !(inS a letters) | _ => false) = [] := by
    rw [List.filter_eq_nil_iff]
    intro v hv
    obtain ⟨c, hc, rfl⟩ := List.mem_map.mp hv
    simp [ha c hc]
  rw [hf] at h
  refine W_of h ?_
  rw [O_eq_lnil (l := []) (by simp) new_at ⟨rfl, by decide, by decide⟩]
  have := q ((GO.lst [] :: m) ++ [GO.lst []])
  simpa [SK, RB] using this
theorem w_l_operands (n : Nat) {e : Ex} {body deep : Int} {p : Bool} {g : G} {Q : PV → G → Prop} (hok : e.ok body p = true)
    (ih : ∀ q ∈ e.parts, ∀ (p' : Bool) (g : G) (Q : PV → G → Prop), q.ok body p' = true → (∀ m, Q (.bl true) (g ++ m)) → WC (CF (n + 1)) ("", "_law_is_expression") [q.pv, .int body, .int (deep - 1), .bl p'] g Q)
    (q : ∀ m, Q (.bl true) (g ++ m)) : WC (CF (n + 2)) ("", "_law_operands") [.str e.form, .tup e.ops, .int body, .int deep, .bl p] g Q := by
  refine wc_body (c_law_operands (n + 1) _ _ _ _ _ g) ?_
  have se : PyData.strOk "e" = true := by decide +kernel
  have sp : PyData.strOk "p" = true := by decide +kernel
  have sx : PyData.strOk "x" = true := by decide +kernel
  have sw : PyData.strOk "w" = true := by decide +kernel
  have sn : PyData.strOk "n" = true := by decide +kernel
  have st : PyData.strOk "t" = true := by decide +kernel
  have sk : PyData.strOk "k" = true := by decide +kernel
  have xx : inS "x" "xw" = true := by kernel_rfl
  have xw : inS "w" "xw" = true := by kernel_rfl
  have xn : inS "n" "xw" = false := by kernel_rfl
  have xt : inS "t" "xw" = false := by kernel_rfl
  have xk : inS "k" "xw" = false := by kernel_rfl
  rw [u_law_operands]
  unfold t_law_operands_0
  rw [Q_seq]
  generalize hσ : [some (PV.str e.form), some (PV.tup e.ops), some (PV.int body), some (PV.int deep), some (PV.bl p), none, none, none] = σ0
  refine wp_for2 ?_
  subst hσ
  simp (decide := true) (implicitDefEqProofs := false) only [W_zip, Ex.ok_words, NX_RBt, NX_SKe, NX_LKt, Q_ret, Q_expr, Q_set, Q_sub, Q_if, Q_seq, Q_next, Q_ct, Q_bk, Q_retN, LK_nx, LK_ct, LK_bk, LK_rt, W_rng1, gName, SK_nx, SK_rt, SK_bk, SK_ct, RB_nx, RB_rt, W_var0, W_varS, W_c, W_op2, W_op1, W_nil, W_cons, W_fn, W_mt, W_call, W_tup, W_lst, W_dct0, W_pn, W_part, W_sl, W_isTy, W_tru, W_bl, W_and, W_or, W_not, W_eBl, W_if, W_eAnd, W_eOr, W_yes, O_ix_0, O_ix_1, O_ix_2, O_ix_3, O_ix_4, O_eq_ss, O_ne_ss, O_eq_ii, O_ne_ii, O_in_1, O_in_2, O_in_3, O_lt, O_le, O_gt, O_ge, O_add, O_sub, O_neg, O_int, O_intb, O_lent, O_min, O_max, O_tuplet, PV.bl.injEq, PV.int.injEq, PV.str.injEq, exists_eq_left', exists_eq_left, List.set_cons_zero, List.set_cons_succ, List.length_cons, List.length_nil, if_true, if_false, Bool.false_eq_true, decide_true, decide_false, ite_true, ite_false, bsOf]
  refine loop_run (L := e.zipped) (fun i σ g' => ∃ x5 x6 x7 m, σ = [some (PV.str e.form), some (PV.tup e.ops), some (PV.int body), some (PV.int deep), some (PV.bl p), x5, x6, x7] ∧ g' = g ++ m) ⟨none, none, none, [], rfl, by simp⟩ (fun _ _ g' _ => items_zip_st g') ?_ ?_
  · rintro i x σ g' hx ⟨x5, x6, x7, m, rfl, rfl⟩
    rw [Ex.zipped_eq] at hx
    rcases Ex.zl_ok hok (List.mem_of_getElem? hx) with ⟨r, hr, rfl, ho⟩ | ⟨r, hr, rfl, ho⟩ | ⟨s, rfl, hs⟩ | ⟨s, rfl, hs, hon⟩ | ⟨j, rfl⟩ | ⟨j, rfl, h0, h1⟩ | ⟨j, rfl, h0, h1⟩
    · refine ⟨_, _, rfl, ?_⟩
      cases p with
      | true =>
        simp (decide := true) (implicitDefEqProofs := false) only [Ex.ok_words, NX_RBt, NX_SKe, NX_LKt, Q_ret, Q_expr, Q_set, Q_sub, Q_if, Q_seq, Q_next, Q_ct, Q_bk, Q_retN, LK_nx, LK_ct, LK_bk, LK_rt, W_rng1, gName, SK_nx, SK_rt, SK_bk, SK_ct, RB_nx, RB_rt, W_var0, W_varS, W_c, W_op2, W_op1, W_nil, W_cons, W_fn, W_mt, W_call, W_tup, W_lst, W_dct0, W_pn, W_part, W_sl, W_isTy, W_tru, W_bl, W_and, W_or, W_not, W_eBl, W_if, W_eAnd, W_eOr, W_yes, O_ix_0, O_ix_1, O_ix_2, O_ix_3, O_ix_4, O_eq_ss, O_ne_ss, O_eq_ii, O_ne_ii, O_in_1, O_in_2, O_in_3, O_lt, O_le, O_gt, O_ge, O_add, O_sub, O_neg, O_int, O_intb, O_lent, O_min, O_max, O_tuplet, PV.bl.injEq, PV.int.injEq, PV.str.injEq, exists_eq_left', exists_eq_left, List.set_cons_zero, List.set_cons_succ, List.length_cons, List.length_nil, if_true, if_false, Bool.false_eq_true, decide_true, decide_false, ite_true, ite_false, in_str, Ex.in_e, tru]
        refine ih r hr true _ _ ho fun m2 => ?_
        simp (decide := true) (implicitDefEqProofs := false) only [Ex.ok_words, NX_RBt, NX_SKe, NX_LKt, Q_ret, Q_expr, Q_set, Q_sub, Q_if, Q_seq, Q_next, Q_ct, Q_bk, Q_retN, LK_nx, LK_ct, LK_bk, LK_rt, W_rng1, gName, SK_nx, SK_rt, SK_bk, SK_ct, RB_nx, RB_rt, W_var0, W_varS, W_c, W_op2, W_op1, W_nil, W_cons, W_fn, W_mt, W_call, W_tup, W_lst, W_dct0, W_pn, W_part, W_sl, W_isTy, W_tru, W_bl, W_and, W_or, W_not, W_eBl, W_if, W_eAnd, W_eOr, W_yes, O_ix_0, O_ix_1, O_ix_2, O_ix_3, O_ix_4, O_eq_ss, O_ne_ss, O_eq_ii, O_ne_ii, O_in_1, O_in_2, O_in_3, O_lt, O_le, O_gt, O_ge, O_add, O_sub, O_neg, O_int, O_intb, O_lent, O_min, O_max, O_tuplet, PV.bl.injEq, PV.int.injEq, PV.str.injEq, exists_eq_left', exists_eq_left, List.set_cons_zero, List.set_cons_succ, List.length_cons, List.length_nil, if_true, if_false, Bool.false_eq_true, decide_true, decide_false, ite_true, ite_false, tru, Bool.not_true]
        exact ⟨_, _, _, m ++ m2, rfl, by simp⟩
      | false =>
        simp (decide := true) (implicitDefEqProofs := false) only [Ex.ok_words, NX_RBt, NX_SKe, NX_LKt, Q_ret, Q_expr, Q_set, Q_sub, Q_if, Q_seq, Q_next, Q_ct, Q_bk, Q_retN, LK_nx, LK_ct, LK_bk, LK_rt, W_rng1, gName, SK_nx, SK_rt, SK_bk, SK_ct, RB_nx, RB_rt, W_var0, W_varS, W_c, W_op2, W_op1, W_nil, W_cons, W_fn, W_mt, W_call, W_tup, W_lst, W_dct0, W_pn, W_part, W_sl, W_isTy, W_tru, W_bl, W_and, W_or, W_not, W_eBl, W_if, W_eAnd, W_eOr, W_yes, O_ix_0, O_ix_1, O_ix_2, O_ix_3, O_ix_4, O_eq_ss, O_ne_ss, O_eq_ii, O_ne_ii, O_in_1, O_in_2, O_in_3, O_lt, O_le, O_gt, O_ge, O_add, O_sub, O_neg, O_int, O_intb, O_lent, O_min, O_max, O_tuplet, PV.bl.injEq, PV.int.injEq, PV.str.injEq, exists_eq_left', exists_eq_left, List.set_cons_zero, List.set_cons_succ, List.length_cons, List.length_nil, if_true, if_false, Bool.false_eq_true, decide_true, decide_false, ite_true, ite_false, in_str, Ex.in_e, tru, se, sp]
        refine ih r hr false _ _ ho fun m2 => ?_
        simp (decide := true) (implicitDefEqProofs := false) only [Ex.ok_words, NX_RBt, NX_SKe, NX_LKt, Q_ret, Q_expr, Q_set, Q_sub, Q_if, Q_seq, Q_next, Q_ct, Q_bk, Q_retN, LK_nx, LK_ct, LK_bk, LK_rt, W_rng1, gName, SK_nx, SK_rt, SK_bk, SK_ct, RB_nx, RB_rt, W_var0, W_varS, W_c, W_op2, W_op1, W_nil, W_cons, W_fn, W_mt, W_call, W_tup, W_lst, W_dct0, W_pn, W_part, W_sl, W_isTy, W_tru, W_bl, W_and, W_or, W_not, W_eBl, W_if, W_eAnd, W_eOr, W_yes, O_ix_0, O_ix_1, O_ix_2, O_ix_3, O_ix_4, O_eq_ss, O_ne_ss, O_eq_ii, O_ne_ii, O_in_1, O_in_2, O_in_3, O_lt, O_le, O_gt, O_ge, O_add, O_sub, O_neg, O_int, O_intb, O_lent, O_min, O_max, O_tuplet, PV.bl.injEq, PV.int.injEq, PV.str.injEq, exists_eq_left', exists_eq_left, List.set_cons_zero, List.set_cons_succ, List.length_cons, List.length_nil, if_true, if_false, Bool.false_eq_true, decide_true, decide_false, ite_true, ite_false, tru, Bool.not_true]
        exact ⟨_, _, _, m ++ m2, rfl, by simp⟩
    · refine ⟨_, _, rfl, ?_⟩
      cases p with
      | true =>
        simp (decide := true) (implicitDefEqProofs := false) only [Ex.ok_words, NX_RBt, NX_SKe, NX_LKt, Q_ret, Q_expr, Q_set, Q_sub, Q_if, Q_seq, Q_next, Q_ct, Q_bk, Q_retN, LK_nx, LK_ct, LK_bk, LK_rt, W_rng1, gName, SK_nx, SK_rt, SK_bk, SK_ct, RB_nx, RB_rt, W_var0, W_varS, W_c, W_op2, W_op1, W_nil, W_cons, W_fn, W_mt, W_call, W_tup, W_lst, W_dct0, W_pn, W_part, W_sl, W_isTy, W_tru, W_bl, W_and, W_or, W_not, W_eBl, W_if, W_eAnd, W_eOr, W_yes, O_ix_0, O_ix_1, O_ix_2, O_ix_3, O_ix_4, O_eq_ss, O_ne_ss, O_eq_ii, O_ne_ii, O_in_1, O_in_2, O_in_3, O_lt, O_le, O_gt, O_ge, O_add, O_sub, O_neg, O_int, O_intb, O_lent, O_min, O_max, O_tuplet, PV.bl.injEq, PV.int.injEq, PV.str.injEq, exists_eq_left', exists_eq_left, List.set_cons_zero, List.set_cons_succ, List.length_cons, List.length_nil, if_true, if_false, Bool.false_eq_true, decide_true, decide_false, ite_true, ite_false, in_str, Ex.in_p, tru]
        refine ih r hr true _ _ ho fun m2 => ?_
        simp (decide := true) (implicitDefEqProofs := false) only [Ex.ok_words, NX_RBt, NX_SKe, NX_LKt, Q_ret, Q_expr, Q_set, Q_sub, Q_if, Q_seq, Q_next, Q_ct, Q_bk, Q_retN, LK_nx, LK_ct, LK_bk, LK_rt, W_rng1, gName, SK_nx, SK_rt, SK_bk, SK_ct, RB_nx, RB_rt, W_var0, W_varS, W_c, W_op2, W_op1, W_nil, W_cons, W_fn, W_mt, W_call, W_tup, W_lst, W_dct0, W_pn, W_part, W_sl, W_isTy, W_tru, W_bl, W_and, W_or, W_not, W_eBl, W_if, W_eAnd, W_eOr, W_yes, O_ix_0, O_ix_1, O_ix_2, O_ix_3, O_ix_4, O_eq_ss, O_ne_ss, O_eq_ii, O_ne_ii, O_in_1, O_in_2, O_in_3, O_lt, O_le, O_gt, O_ge, O_add, O_sub, O_neg, O_int, O_intb, O_lent, O_min, O_max, O_tuplet, PV.bl.injEq, PV.int.injEq, PV.str.injEq, exists_eq_left', exists_eq_left, List.set_cons_zero, List.set_cons_succ, List.length_cons, List.length_nil, if_true, if_false, Bool.false_eq_true, decide_true, decide_false, ite_true, ite_false, tru, Bool.not_true]
        exact ⟨_, _, _, m ++ m2, rfl, by simp⟩
      | false =>
        simp (decide := true) (implicitDefEqProofs := false) only [Ex.ok_words, NX_RBt, NX_SKe, NX_LKt, Q_ret, Q_expr, Q_set, Q_sub, Q_if, Q_seq, Q_next, Q_ct, Q_bk, Q_retN, LK_nx, LK_ct, LK_bk, LK_rt, W_rng1, gName, SK_nx, SK_rt, SK_bk, SK_ct, RB_nx, RB_rt, W_var0, W_varS, W_c, W_op2, W_op1, W_nil, W_cons, W_fn, W_mt, W_call, W_tup, W_lst, W_dct0, W_pn, W_part, W_sl, W_isTy, W_tru, W_bl, W_and, W_or, W_not, W_eBl, W_if, W_eAnd, W_eOr, W_yes, O_ix_0, O_ix_1, O_ix_2, O_ix_3, O_ix_4, O_eq_ss, O_ne_ss, O_eq_ii, O_ne_ii, O_in_1, O_in_2, O_in_3, O_lt, O_le, O_gt, O_ge, O_add, O_sub, O_neg, O_int, O_intb, O_lent, O_min, O_max, O_tuplet, PV.bl.injEq, PV.int.injEq, PV.str.injEq, exists_eq_left', exists_eq_left, List.set_cons_zero, List.set_cons_succ, List.length_cons, List.length_nil, if_true, if_false, Bool.false_eq_true, decide_true, decide_false, ite_true, ite_false, in_str, Ex.in_p, tru, se, sp]
        refine ih r hr true _ _ ho fun m2 => ?_
        simp (decide := true) (implicitDefEqProofs := false) only [Ex.ok_words, NX_RBt, NX_SKe, NX_LKt, Q_ret, Q_expr, Q_set, Q_sub, Q_if, Q_seq, Q_next, Q_ct, Q_bk, Q_retN, LK_nx, LK_ct, LK_bk, LK_rt, W_rng1, gName, SK_nx, SK_rt, SK_bk, SK_ct, RB_nx, RB_rt, W_var0, W_varS, W_c, W_op2, W_op1, W_nil, W_cons, W_fn, W_mt, W_call, W_tup, W_lst, W_dct0, W_pn, W_part, W_sl, W_isTy, W_tru, W_bl, W_and, W_or, W_not, W_eBl, W_if, W_eAnd, W_eOr, W_yes, O_ix_0, O_ix_1, O_ix_2, O_ix_3, O_ix_4, O_eq_ss, O_ne_ss, O_eq_ii, O_ne_ii, O_in_1, O_in_2, O_in_3, O_lt, O_le, O_gt, O_ge, O_add, O_sub, O_neg, O_int, O_intb, O_lent, O_min, O_max, O_tuplet, PV.bl.injEq, PV.int.injEq, PV.str.injEq, exists_eq_left', exists_eq_left, List.set_cons_zero, List.set_cons_succ, List.length_cons, List.length_nil, if_true, if_false, Bool.false_eq_true, decide_true, decide_false, ite_true, ite_false, tru, Bool.not_true]
        exact ⟨_, _, _, m ++ m2, rfl, by simp⟩
    · refine ⟨_, _, rfl, ?_⟩
      simp (decide := true) (implicitDefEqProofs := false) only [Ex.ok_words, NX_RBt, NX_SKe, NX_LKt, Q_ret, Q_expr, Q_set, Q_sub, Q_if, Q_seq, Q_next, Q_ct, Q_bk, Q_retN, LK_nx, LK_ct, LK_bk, LK_rt, W_rng1, gName, SK_nx, SK_rt, SK_bk, SK_ct, RB_nx, RB_rt, W_var0, W_varS, W_c, W_op2, W_op1, W_nil, W_cons, W_fn, W_mt, W_call, W_tup, W_lst, W_dct0, W_pn, W_part, W_sl, W_isTy, W_tru, W_bl, W_and, W_or, W_not, W_eBl, W_if, W_eAnd, W_eOr, W_yes, O_ix_0, O_ix_1, O_ix_2, O_ix_3, O_ix_4, O_eq_ss, O_ne_ss, O_eq_ii, O_ne_ii, O_in_1, O_in_2, O_in_3, O_lt, O_le, O_gt, O_ge, O_add, O_sub, O_neg, O_int, O_intb, O_lent, O_min, O_max, O_tuplet, PV.bl.injEq, PV.int.injEq, PV.str.injEq, exists_eq_left', exists_eq_left, List.set_cons_zero, List.set_cons_succ, List.length_cons, List.length_nil, if_true, if_false, Bool.false_eq_true, decide_true, decide_false, ite_true, ite_false, in_str, Ex.in_x, xx]
      refine w_l_is_name n hs fun m2 => ?_
      simp (decide := true) (implicitDefEqProofs := false) only [Ex.ok_words, NX_RBt, NX_SKe, NX_LKt, Q_ret, Q_expr, Q_set, Q_sub, Q_if, Q_seq, Q_next, Q_ct, Q_bk, Q_retN, LK_nx, LK_ct, LK_bk, LK_rt, W_rng1, gName, SK_nx, SK_rt, SK_bk, SK_ct, RB_nx, RB_rt, W_var0, W_varS, W_c, W_op2, W_op1, W_nil, W_cons, W_fn, W_mt, W_call, W_tup, W_lst, W_dct0, W_pn, W_part, W_sl, W_isTy, W_tru, W_bl, W_and, W_or, W_not, W_eBl, W_if, W_eAnd, W_eOr, W_yes, O_ix_0, O_ix_1, O_ix_2, O_ix_3, O_ix_4, O_eq_ss, O_ne_ss, O_eq_ii, O_ne_ii, O_in_1, O_in_2, O_in_3, O_lt, O_le, O_gt, O_ge, O_add, O_sub, O_neg, O_int, O_intb, O_lent, O_min, O_max, O_tuplet, PV.bl.injEq, PV.int.injEq, PV.str.injEq, exists_eq_left', exists_eq_left, List.set_cons_zero, List.set_cons_succ, List.length_cons, List.length_nil, if_true, if_false, Bool.false_eq_true, decide_true, decide_false, ite_true, ite_false, tru, Bool.not_true, sx]
      exact ⟨_, _, _, m ++ m2, rfl, by simp⟩
    · refine ⟨_, _, rfl, ?_⟩
      have hs' := nameOk_str hs
      simp (decide := true) (implicitDefEqProofs := false) only [Ex.ok_words, NX_RBt, NX_SKe, NX_LKt, Q_ret, Q_expr, Q_set, Q_sub, Q_if, Q_seq, Q_next, Q_ct, Q_bk, Q_retN, LK_nx, LK_ct, LK_bk, LK_rt, W_rng1, gName, SK_nx, SK_rt, SK_bk, SK_ct, RB_nx, RB_rt, W_var0, W_varS, W_c, W_op2, W_op1, W_nil, W_cons, W_fn, W_mt, W_call, W_tup, W_lst, W_dct0, W_pn, W_part, W_sl, W_isTy, W_tru, W_bl, W_and, W_or, W_not, W_eBl, W_if, W_eAnd, W_eOr, W_yes, O_ix_0, O_ix_1, O_ix_2, O_ix_3, O_ix_4, O_eq_ss, O_ne_ss, O_eq_ii, O_ne_ii, O_in_1, O_in_2, O_in_3, O_lt, O_le, O_gt, O_ge, O_add, O_sub, O_neg, O_int, O_intb, O_lent, O_min, O_max, O_tuplet, PV.bl.injEq, PV.int.injEq, PV.str.injEq, exists_eq_left', exists_eq_left, List.set_cons_zero, List.set_cons_succ, List.length_cons, List.length_nil, if_true, if_false, Bool.false_eq_true, decide_true, decide_false, ite_true, ite_false, in_str, Ex.in_w, xw]
      refine w_l_is_name n hs fun m2 => ?_
      simp (decide := true) (implicitDefEqProofs := false) only [Ex.ok_words, NX_RBt, NX_SKe, NX_LKt, Q_ret, Q_expr, Q_set, Q_sub, Q_if, Q_seq, Q_next, Q_ct, Q_bk, Q_retN, LK_nx, LK_ct, LK_bk, LK_rt, W_rng1, gName, SK_nx, SK_rt, SK_bk, SK_ct, RB_nx, RB_rt, W_var0, W_varS, W_c, W_op2, W_op1, W_nil, W_cons, W_fn, W_mt, W_call, W_tup, W_lst, W_dct0, W_pn, W_part, W_sl, W_isTy, W_tru, W_bl, W_and, W_or, W_not, W_eBl, W_if, W_eAnd, W_eOr, W_yes, O_ix_0, O_ix_1, O_ix_2, O_ix_3, O_ix_4, O_eq_ss, O_ne_ss, O_eq_ii, O_ne_ii, O_in_1, O_in_2, O_in_3, O_lt, O_le, O_gt, O_ge, O_add, O_sub, O_neg, O_int, O_intb, O_lent, O_min, O_max, O_tuplet, PV.bl.injEq, PV.int.injEq, PV.str.injEq, exists_eq_left', exists_eq_left, List.set_cons_zero, List.set_cons_succ, List.length_cons, List.length_nil, if_true, if_false, Bool.false_eq_true, decide_true, decide_false, ite_true, ite_false, tru, Bool.not_true, Bool.not_false, sx, sw, hs', hon]
      exact ⟨_, _, _, m ++ m2, rfl, by simp⟩
    · refine ⟨_, _, rfl, ?_⟩
      simp (decide := true) (implicitDefEqProofs := false) only [Ex.ok_words, NX_RBt, NX_SKe, NX_LKt, Q_ret, Q_expr, Q_set, Q_sub, Q_if, Q_seq, Q_next, Q_ct, Q_bk, Q_retN, LK_nx, LK_ct, LK_bk, LK_rt, W_rng1, gName, SK_nx, SK_rt, SK_bk, SK_ct, RB_nx, RB_rt, W_var0, W_varS, W_c, W_op2, W_op1, W_nil, W_cons, W_fn, W_mt, W_call, W_tup, W_lst, W_dct0, W_pn, W_part, W_sl, W_isTy, W_tru, W_bl, W_and, W_or, W_not, W_eBl, W_if, W_eAnd, W_eOr, W_yes, O_ix_0, O_ix_1, O_ix_2, O_ix_3, O_ix_4, O_eq_ss, O_ne_ss, O_eq_ii, O_ne_ii, O_in_1, O_in_2, O_in_3, O_lt, O_le, O_gt, O_ge, O_add, O_sub, O_neg, O_int, O_intb, O_lent, O_min, O_max, O_tuplet, PV.bl.injEq, PV.int.injEq, PV.str.injEq, exists_eq_left', exists_eq_left, List.set_cons_zero, List.set_cons_succ, List.length_cons, List.length_nil, if_true, if_false, Bool.false_eq_true, decide_true, decide_false, ite_true, ite_false, in_str, Ex.in_n, xn]
      refine w_l_whole n ?_
      simp (decide := true) (implicitDefEqProofs := false) only [Ex.ok_words, NX_RBt, NX_SKe, NX_LKt, Q_ret, Q_expr, Q_set, Q_sub, Q_if, Q_seq, Q_next, Q_ct, Q_bk, Q_retN, LK_nx, LK_ct, LK_bk, LK_rt, W_rng1, gName, SK_nx, SK_rt, SK_bk, SK_ct, RB_nx, RB_rt, W_var0, W_varS, W_c, W_op2, W_op1, W_nil, W_cons, W_fn, W_mt, W_call, W_tup, W_lst, W_dct0, W_pn, W_part, W_sl, W_isTy, W_tru, W_bl, W_and, W_or, W_not, W_eBl, W_if, W_eAnd, W_eOr, W_yes, O_ix_0, O_ix_1, O_ix_2, O_ix_3, O_ix_4, O_eq_ss, O_ne_ss, O_eq_ii, O_ne_ii, O_in_1, O_in_2, O_in_3, O_lt, O_le, O_gt, O_ge, O_add, O_sub, O_neg, O_int, O_intb, O_lent, O_min, O_max, O_tuplet, PV.bl.injEq, PV.int.injEq, PV.str.injEq, exists_eq_left', exists_eq_left, List.set_cons_zero, List.set_cons_succ, List.length_cons, List.length_nil, if_true, if_false, Bool.false_eq_true, decide_true, decide_false, ite_true, ite_false, tru, Bool.not_true, Bool.not_false, sn]
      exact ⟨_, _, _, m, rfl, by simp⟩
    · refine ⟨_, _, rfl, ?_⟩
      simp (decide := true) (implicitDefEqProofs := false) only [Ex.ok_words, NX_RBt, NX_SKe, NX_LKt, Q_ret, Q_expr, Q_set, Q_sub, Q_if, Q_seq, Q_next, Q_ct, Q_bk, Q_retN, LK_nx, LK_ct, LK_bk, LK_rt, W_rng1, gName, SK_nx, SK_rt, SK_bk, SK_ct, RB_nx, RB_rt, W_var0, W_varS, W_c, W_op2, W_op1, W_nil, W_cons, W_fn, W_mt, W_call, W_tup, W_lst, W_dct0, W_pn, W_part, W_sl, W_isTy, W_tru, W_bl, W_and, W_or, W_not, W_eBl, W_if, W_eAnd, W_eOr, W_yes, O_ix_0, O_ix_1, O_ix_2, O_ix_3, O_ix_4, O_eq_ss, O_ne_ss, O_eq_ii, O_ne_ii, O_in_1, O_in_2, O_in_3, O_lt, O_le, O_gt, O_ge, O_add, O_sub, O_neg, O_int, O_intb, O_lent, O_min, O_max, O_tuplet, PV.bl.injEq, PV.int.injEq, PV.str.injEq, exists_eq_left', exists_eq_left, List.set_cons_zero, List.set_cons_succ, List.length_cons, List.length_nil, if_true, if_false, Bool.false_eq_true, decide_true, decide_false, ite_true, ite_false, in_str, Ex.in_t, xt]
      refine w_l_whole n ?_
      simp (decide := true) (implicitDefEqProofs := false) only [Ex.ok_words, NX_RBt, NX_SKe, NX_LKt, Q_ret, Q_expr, Q_set, Q_sub, Q_if, Q_seq, Q_next, Q_ct, Q_bk, Q_retN, LK_nx, LK_ct, LK_bk, LK_rt, W_rng1, gName, SK_nx, SK_rt, SK_bk, SK_ct, RB_nx, RB_rt, W_var0, W_varS, W_c, W_op2, W_op1, W_nil, W_cons, W_fn, W_mt, W_call, W_tup, W_lst, W_dct0, W_pn, W_part, W_sl, W_isTy, W_tru, W_bl, W_and, W_or, W_not, W_eBl, W_if, W_eAnd, W_eOr, W_yes, O_ix_0, O_ix_1, O_ix_2, O_ix_3, O_ix_4, O_eq_ss, O_ne_ss, O_eq_ii, O_ne_ii, O_in_1, O_in_2, O_in_3, O_lt, O_le, O_gt, O_ge, O_add, O_sub, O_neg, O_int, O_intb, O_lent, O_min, O_max, O_tuplet, PV.bl.injEq, PV.int.injEq, PV.str.injEq, exists_eq_left', exists_eq_left, List.set_cons_zero, List.set_cons_succ, List.length_cons, List.length_nil, if_true, if_false, Bool.false_eq_true, decide_true, decide_false, ite_true, ite_false, tru, Bool.not_true, Bool.not_false, sn, sk, st, W_chain, h0]
      rw [O_ix_l _ _ new_at (atI_ok (i := 0) (by decide) rfl)]
      simp (decide := true) (implicitDefEqProofs := false) only [Ex.ok_words, NX_RBt, NX_SKe, NX_LKt, Q_ret, Q_expr, Q_set, Q_sub, Q_if, Q_seq, Q_next, Q_ct, Q_bk, Q_retN, LK_nx, LK_ct, LK_bk, LK_rt, W_rng1, gName, SK_nx, SK_rt, SK_bk, SK_ct, RB_nx, RB_rt, W_var0, W_varS, W_c, W_op2, W_op1, W_nil, W_cons, W_fn, W_mt, W_call, W_tup, W_lst, W_dct0, W_pn, W_part, W_sl, W_isTy, W_tru, W_bl, W_and, W_or, W_not, W_eBl, W_if, W_eAnd, W_eOr, W_yes, O_ix_0, O_ix_1, O_ix_2, O_ix_3, O_ix_4, O_eq_ss, O_ne_ss, O_eq_ii, O_ne_ii, O_in_1, O_in_2, O_in_3, O_lt, O_le, O_gt, O_ge, O_add, O_sub, O_neg, O_int, O_intb, O_lent, O_min, O_max, O_tuplet, PV.bl.injEq, PV.int.injEq, PV.str.injEq, exists_eq_left', exists_eq_left, List.set_cons_zero, List.set_cons_succ, List.length_cons, List.length_nil, if_true, if_false, Bool.false_eq_true, decide_true, decide_false, ite_true, ite_false, tru, Bool.not_true, Bool.not_false, h1]
      exact ⟨_, _, _, m ++ [GO.lst [PV.int 4, PV.int body]], rfl, by simp⟩
    · refine ⟨_, _, rfl, ?_⟩
      simp (decide := true) (implicitDefEqProofs := false) only [Ex.ok_words, NX_RBt, NX_SKe, NX_LKt, Q_ret, Q_expr, Q_set, Q_sub, Q_if, Q_seq, Q_next, Q_ct, Q_bk, Q_retN, LK_nx, LK_ct, LK_bk, LK_rt, W_rng1, gName, SK_nx, SK_rt, SK_bk, SK_ct, RB_nx, RB_rt, W_var0, W_varS, W_c, W_op2, W_op1, W_nil, W_cons, W_fn, W_mt, W_call, W_tup, W_lst, W_dct0, W_pn, W_part, W_sl, W_isTy, W_tru, W_bl, W_and, W_or, W_not, W_eBl, W_if, W_eAnd, W_eOr, W_yes, O_ix_0, O_ix_1, O_ix_2, O_ix_3, O_ix_4, O_eq_ss, O_ne_ss, O_eq_ii, O_ne_ii, O_in_1, O_in_2, O_in_3, O_lt, O_le, O_gt, O_ge, O_add, O_sub, O_neg, O_int, O_intb, O_lent, O_min, O_max, O_tuplet, PV.bl.injEq, PV.int.injEq, PV.str.injEq, exists_eq_left', exists_eq_left, List.set_cons_zero, List.set_cons_succ, List.length_cons, List.length_nil, if_true, if_false, Bool.false_eq_true, decide_true, decide_false, ite_true, ite_false, in_str, Ex.in_k, xk]
      refine w_l_whole n ?_
      simp (decide := true) (implicitDefEqProofs := false) only [Ex.ok_words, NX_RBt, NX_SKe, NX_LKt, Q_ret, Q_expr, Q_set, Q_sub, Q_if, Q_seq, Q_next, Q_ct, Q_bk, Q_retN, LK_nx, LK_ct, LK_bk, LK_rt, W_rng1, gName, SK_nx, SK_rt, SK_bk, SK_ct, RB_nx, RB_rt, W_var0, W_varS, W_c, W_op2, W_op1, W_nil, W_cons, W_fn, W_mt, W_call, W_tup, W_lst, W_dct0, W_pn, W_part, W_sl, W_isTy, W_tru, W_bl, W_and, W_or, W_not, W_eBl, W_if, W_eAnd, W_eOr, W_yes, O_ix_0, O_ix_1, O_ix_2, O_ix_3, O_ix_4, O_eq_ss, O_ne_ss, O_eq_ii, O_ne_ii, O_in_1, O_in_2, O_in_3, O_lt, O_le, O_gt, O_ge, O_add, O_sub, O_neg, O_int, O_intb, O_lent, O_min, O_max, O_tuplet, PV.bl.injEq, PV.int.injEq, PV.str.injEq, exists_eq_left', exists_eq_left, List.set_cons_zero, List.set_cons_succ, List.length_cons, List.length_nil, if_true, if_false, Bool.false_eq_true, decide_true, decide_false, ite_true, ite_false, tru, Bool.not_true, Bool.not_false, sn, sk, st, W_chain, h0]
      rw [O_ix_l _ _ new_at (atI_ok (i := 1) (by decide) rfl)]
      simp (decide := true) (implicitDefEqProofs := false) only [Ex.ok_words, NX_RBt, NX_SKe, NX_LKt, Q_ret, Q_expr, Q_set, Q_sub, Q_if, Q_seq, Q_next, Q_ct, Q_bk, Q_retN, LK_nx, LK_ct, LK_bk, LK_rt, W_rng1, gName, SK_nx, SK_rt, SK_bk, SK_ct, RB_nx, RB_rt, W_var0, W_varS, W_c, W_op2, W_op1, W_nil, W_cons, W_fn, W_mt, W_call, W_tup, W_lst, W_dct0, W_pn, W_part, W_sl, W_isTy, W_tru, W_bl, W_and, W_or, W_not, W_eBl, W_if, W_eAnd, W_eOr, W_yes, O_ix_0, O_ix_1, O_ix_2, O_ix_3, O_ix_4, O_eq_ss, O_ne_ss, O_eq_ii, O_ne_ii, O_in_1, O_in_2, O_in_3, O_lt, O_le, O_gt, O_ge, O_add, O_sub, O_neg, O_int, O_intb, O_lent, O_min, O_max, O_tuplet, PV.bl.injEq, PV.int.injEq, PV.str.injEq, exists_eq_left', exists_eq_left, List.set_cons_zero, List.set_cons_succ, List.length_cons, List.length_nil, if_true, if_false, Bool.false_eq_true, decide_true, decide_false, ite_true, ite_false, tru, Bool.not_true, Bool.not_false, h1]
      exact ⟨_, _, _, m ++ [GO.lst [PV.int 4, PV.int body]], rfl, by simp⟩
  · rintro σ g' ⟨x5, x6, x7, m, rfl, rfl⟩
    simp (decide := true) (implicitDefEqProofs := false) only [t_law_operands_1, Ex.ok_words, NX_RBt, NX_SKe, NX_LKt, Q_ret, Q_expr, Q_set, Q_sub, Q_if, Q_seq, Q_next, Q_ct, Q_bk, Q_retN, LK_nx, LK_ct, LK_bk, LK_rt, W_rng1, gName, SK_nx, SK_rt, SK_bk, SK_ct, RB_nx, RB_rt, W_var0, W_varS, W_c, W_op2, W_op1, W_nil, W_cons, W_fn, W_mt, W_call, W_tup, W_lst, W_dct0, W_pn, W_part, W_sl, W_isTy, W_tru, W_bl, W_and, W_or, W_not, W_eBl, W_if, W_eAnd, W_eOr, W_yes, O_ix_0, O_ix_1, O_ix_2, O_ix_3, O_ix_4, O_eq_ss, O_ne_ss, O_eq_ii, O_ne_ii, O_in_1, O_in_2, O_in_3, O_lt, O_le, O_gt, O_ge, O_add, O_sub, O_neg, O_int, O_intb, O_lent, O_min, O_max, O_tuplet, PV.bl.injEq, PV.int.injEq, PV.str.injEq, exists_eq_left', exists_eq_left, List.set_cons_zero, List.set_cons_succ, List.length_cons, List.length_nil, if_true, if_false, Bool.false_eq_true, decide_true, decide_false, ite_true, ite_false]
    exact q m
def later : Ex → Bool
  | .call _ _ => true | .fault _ _ => true | .take _ _ => true | .look _ _ _ _ => true | .way _ _ _ _ => true | .anew _ _ _ => true | .clean _ _ => true | _ => false
abbrev F8 : List (L2.Key × PV) := [(.inr "num", .str "n"), (.inr "name", .str "x"), (.inr "plus", .str "ee"), (.inr "less", .str "ee"), (.inr "if", .str "eee"), (.inr "let", .str "xee"), (.inr "read", .str ""), (.inr "tell", .str "e")]
abbrev M7 : List (L2.Key × PV) := [(.inr "call", .str "ke"), (.inr "fault", .str "xe"), (.inr "take", .str "xe"), (.inr "look", .str "xxee"), (.inr "way", .str "wxee"), (.inr "anew", .str "wte"), (.inr "clean", .str "pe")]
theorem form_1 (e : Ex) : (look F8 (.inr e.hd)).isSome = !later e := by cases e <;> kernel_rfl
theorem form_2 (e : Ex) : (look M7 (.inr e.hd)).isSome = later e := by cases e <;> kernel_rfl
theorem form_3 (e : Ex) : (look F8 (.inr e.hd)).getD ((look M7 (.inr e.hd)).getD (.str "")) = .str e.form := by cases e <;> kernel_rfl
theorem form_4 (e : Ex) : (e.form.length : Int) = (e.ops.length : Int) := by cases e <;> kernel_rfl
theorem form_5 (e : Ex) : e.form.length ≤ big := by cases e <;> (simp only [Ex.form]; decide +kernel)
theorem later_plain {body : Int} {e : Ex} {p : Bool} (h : e.ok body p = true) (hl : later e = true) : p = false := by
  cases e <;> first | (exact absurd hl Bool.false_ne_true) | (cases p <;> first | rfl | (simp [Ex.ok] at h; done))
theorem read_plain {body : Int} {e : Ex} (h : e.ok body true = true) : e.hd ≠ "read" := by
  cases e <;> first | (simp only [Ex.hd]; decide) | (simp [Ex.ok] at h; done)
theorem w_l_is_expression (k : Nat) : ∀ (n : Nat) {e : Ex} {body deep : Int} {p : Bool} {g : G} {Q : PV → G → Prop}, e.ok body p = true → e.dep ≤ n → n ≤ 60 → (e.dep : Int) ≤ deep → e.count ≤ 1000 → (∀ m, Q (.bl true) (g ++ m)) → WC (CF (2 * n + k + 1)) ("", "_law_is_expression") [e.pv, .int body, .int deep, .bl p] g Q
  | 0, e, body, deep, p, g, Q, hok, hn, h60, hd, hc, q => by have := e.dep_pos; omega
  | n + 1, e, body, deep, p, g, Q, hok, hn, h60, hd, hc, q => by
    have e2 : 2 * (n + 1) + k + 1 = 2 * n + k + 2 + 1 := by omega
    rw [e2]
    refine wc_body (c_law_is_expression (2 * n + k + 2) _ _ _ _ g) ?_
    rw [u_law_is_expression]
    have hd0 : deep ≠ 0 := by have := e.dep_pos; omega
    have hD := Ex.Dat_pv hok (by omega) hc
    rw [Ex.pv_eq] at hD ⊢
    have hpos : ∀ g Q, O (opEq (.tup (.str e.hd :: e.ops)) (.tup []) g) Q = Q (.bl false) g := fun g Q => O_eq_tnil g Q hD
    have fin : ∀ m : G, WC (CF (2 * n + k + 2)) ("", "_law_operands") [.str e.form, .tup e.ops, .int body, .int deep, .bl p] (g ++ m) Q := fun m => by
      refine w_l_operands (2 * n + k) hok ?_ fun m2 => by have := q (m ++ m2); simpa using this
      intro r hr p' g' Q' ho hq
      have := Ex.dep_part hr
      have := Ex.count_part hr
      exact w_l_is_expression k n ho (by omega) (by omega) (by omega) (by omega) hq
    have is1 : ∀ l g, isTy "tuple" (.tup l) g = some true := fun l g => rfl
    have is2 : ∀ x g, isTy "str" (.str x) g = some true := fun l g => rfl
    simp (decide := true) (implicitDefEqProofs := false) only [t_law_is_expression_0, t_law_is_expression_1, t_law_is_expression_2, t_law_is_expression_3, Ex.ok_words, NX_RBt, NX_SKe, NX_LKt, Q_ret, Q_expr, Q_set, Q_sub, Q_if, Q_seq, Q_next, Q_ct, Q_bk, Q_retN, LK_nx, LK_ct, LK_bk, LK_rt, W_rng1, gName, SK_nx, SK_rt, SK_bk, SK_ct, RB_nx, RB_rt, W_var0, W_varS, W_c, W_op2, W_op1, W_nil, W_cons, W_fn, W_mt, W_call, W_tup, W_lst, W_dct0, W_pn, W_part, W_sl, W_isTy, W_tru, W_bl, W_and, W_or, W_not, W_eBl, W_if, W_eAnd, W_eOr, W_yes, O_ix_0, O_ix_1, O_ix_2, O_ix_3, O_ix_4, O_eq_ss, O_ne_ss, O_eq_ii, O_ne_ii, O_in_1, O_in_2, O_in_3, O_lt, O_le, O_gt, O_ge, O_add, O_sub, O_neg, O_int, O_intb, O_lent, O_min, O_max, O_tuplet, PV.bl.injEq, PV.int.injEq, PV.str.injEq, exists_eq_left', exists_eq_left, List.set_cons_zero, List.set_cons_succ, List.length_cons, List.length_nil, if_true, if_false, Bool.false_eq_true, decide_true, decide_false, ite_true, ite_false, W_dct, W_pcons, W_pnil, keyOf_str, new_at, new_set, mergeD, putD, List.foldl_cons, List.foldl_nil, List.any_cons, List.any_nil, List.map_cons, List.map_nil, List.nil_append, List.cons_append, Bool.or_false, Bool.false_or, Sum.inr.injEq, look_cons, look_nil, Option.getD_some, Option.getD_none, dk_isD new_at, O_get new_at, is1, is2, tru, hpos, hd0, Bool.not_true, Bool.not_false]
    have fin2 : ∀ a b : GO, WC (CF (2 * n + k + 2)) ("", "_law_operands") [.str e.form, .tup e.ops, .int body, .int deep, .bl p] (g ++ [a] ++ [b]) Q := fun a b => by
      rw [List.append_assoc]
      exact fin _
    have hr := Ex.hd_ok e
    have f4 : ((e.form.length : Int) = (((e.ops.length + 1 : Nat)) : Int) - 1) := by have := form_4 e; omega
    cases hl : later e with
    | true =>
      have hp := later_plain hok hl
      subst hp
      simp (decide := true) (implicitDefEqProofs := false) only [t_law_is_expression_4, t_law_is_expression_5, t_law_is_expression_6, t_law_is_expression_7, Ex.ok_words, NX_RBt, NX_SKe, NX_LKt, Q_ret, Q_expr, Q_set, Q_sub, Q_if, Q_seq, Q_next, Q_ct, Q_bk, Q_retN, LK_nx, LK_ct, LK_bk, LK_rt, W_rng1, gName, SK_nx, SK_rt, SK_bk, SK_ct, RB_nx, RB_rt, W_var0, W_varS, W_c, W_op2, W_op1, W_nil, W_cons, W_fn, W_mt, W_call, W_tup, W_lst, W_dct0, W_pn, W_part, W_sl, W_isTy, W_tru, W_bl, W_and, W_or, W_not, W_eBl, W_if, W_eAnd, W_eOr, W_yes, O_ix_0, O_ix_1, O_ix_2, O_ix_3, O_ix_4, O_eq_ss, O_ne_ss, O_eq_ii, O_ne_ii, O_in_1, O_in_2, O_in_3, O_lt, O_le, O_gt, O_ge, O_add, O_sub, O_neg, O_int, O_intb, O_lent, O_min, O_max, O_tuplet, PV.bl.injEq, PV.int.injEq, PV.str.injEq, exists_eq_left', exists_eq_left, List.set_cons_zero, List.set_cons_succ, List.length_cons, List.length_nil, if_true, if_false, Bool.false_eq_true, decide_true, decide_false, ite_true, ite_false, tru, O_nin_dk new_at, O_nin_dk new_at2, dk_isD new_at2, dk_isD new_at, O_get new_at2, O_get new_at, form_1, form_2, form_3, hl, Bool.not_true, Bool.not_false, O_lens _ _ _ (form_5 e), f4, O_slt]
      exact fin2 _ _
    | false =>
      cases p with
      | false =>
        simp (decide := true) (implicitDefEqProofs := false) only [t_law_is_expression_4, t_law_is_expression_5, t_law_is_expression_6, t_law_is_expression_7, Ex.ok_words, NX_RBt, NX_SKe, NX_LKt, Q_ret, Q_expr, Q_set, Q_sub, Q_if, Q_seq, Q_next, Q_ct, Q_bk, Q_retN, LK_nx, LK_ct, LK_bk, LK_rt, W_rng1, gName, SK_nx, SK_rt, SK_bk, SK_ct, RB_nx, RB_rt, W_var0, W_varS, W_c, W_op2, W_op1, W_nil, W_cons, W_fn, W_mt, W_call, W_tup, W_lst, W_dct0, W_pn, W_part, W_sl, W_isTy, W_tru, W_bl, W_and, W_or, W_not, W_eBl, W_if, W_eAnd, W_eOr, W_yes, O_ix_0, O_ix_1, O_ix_2, O_ix_3, O_ix_4, O_eq_ss, O_ne_ss, O_eq_ii, O_ne_ii, O_in_1, O_in_2, O_in_3, O_lt, O_le, O_gt, O_ge, O_add, O_sub, O_neg, O_int, O_intb, O_lent, O_min, O_max, O_tuplet, PV.bl.injEq, PV.int.injEq, PV.str.injEq, exists_eq_left', exists_eq_left, List.set_cons_zero, List.set_cons_succ, List.length_cons, List.length_nil, if_true, if_false, Bool.false_eq_true, decide_true, decide_false, ite_true, ite_false, tru, O_nin_dk new_at, O_nin_dk new_at2, dk_isD new_at2, dk_isD new_at, O_get new_at2, O_get new_at, form_1, form_2, form_3, hl, Bool.not_true, Bool.not_false, O_lens _ _ _ (form_5 e), f4, O_slt]
        exact fin2 _ _
      | true =>
        have hrd := read_plain hok
        simp (decide := true) (implicitDefEqProofs := false) only [t_law_is_expression_4, t_law_is_expression_5, t_law_is_expression_6, t_law_is_expression_7, Ex.ok_words, NX_RBt, NX_SKe, NX_LKt, Q_ret, Q_expr, Q_set, Q_sub, Q_if, Q_seq, Q_next, Q_ct, Q_bk, Q_retN, LK_nx, LK_ct, LK_bk, LK_rt, W_rng1, gName, SK_nx, SK_rt, SK_bk, SK_ct, RB_nx, RB_rt, W_var0, W_varS, W_c, W_op2, W_op1, W_nil, W_cons, W_fn, W_mt, W_call, W_tup, W_lst, W_dct0, W_pn, W_part, W_sl, W_isTy, W_tru, W_bl, W_and, W_or, W_not, W_eBl, W_if, W_eAnd, W_eOr, W_yes, O_ix_0, O_ix_1, O_ix_2, O_ix_3, O_ix_4, O_eq_ss, O_ne_ss, O_eq_ii, O_ne_ii, O_in_1, O_in_2, O_in_3, O_lt, O_le, O_gt, O_ge, O_add, O_sub, O_neg, O_int, O_intb, O_lent, O_min, O_max, O_tuplet, PV.bl.injEq, PV.int.injEq, PV.str.injEq, exists_eq_left', exists_eq_left, List.set_cons_zero, List.set_cons_succ, List.length_cons, List.length_nil, if_true, if_false, Bool.false_eq_true, decide_true, decide_false, ite_true, ite_false, tru, O_nin_dk new_at, O_nin_dk new_at2, dk_isD new_at2, dk_isD new_at, O_get new_at2, O_get new_at, form_1, form_2, form_3, hl, hr, hrd, Bool.not_true, Bool.not_false, O_lens _ _ _ (form_5 e), f4, O_slt]
        exact fin2 _ _
theorem w_l_is_program (n : Nat) {es : List Ex} {g : G} {Q : PV → G → Prop} (P : Prog es) (q : ∀ m, Q (.bl true) (g ++ m)) : WC (CF (n + 18)) ("", "_law_is_program") [.tup (es.map Ex.pv)] g Q := by
  refine wc_body (c_law_is_program (n + 17) _ g) ?_
  rw [u_law_is_program]
  have l1 := P.pos
  have l4 := P.le
  have is1 : ∀ l g, isTy "tuple" (.tup l) g = some true := fun l g => rfl
  have e1 : decide ((es.length : Int) < 1) = false := by simp; omega
  have e2 : decide ((4 : Int) < (es.length : Int)) = false := by simp; omega
  simp (decide := true) (implicitDefEqProofs := false) only [t_law_is_program_0, Ex.ok_words, NX_RBt, NX_SKe, NX_LKt, Q_ret, Q_expr, Q_set, Q_sub, Q_if, Q_seq, Q_next, Q_ct, Q_bk, Q_retN, LK_nx, LK_ct, LK_bk, LK_rt, W_rng1, gName, SK_nx, SK_rt, SK_bk, SK_ct, RB_nx, RB_rt, W_var0, W_varS, W_c, W_op2, W_op1, W_nil, W_cons, W_fn, W_mt, W_call, W_tup, W_lst, W_dct0, W_pn, W_part, W_sl, W_isTy, W_tru, W_bl, W_and, W_or, W_not, W_eBl, W_if, W_eAnd, W_eOr, W_yes, O_ix_0, O_ix_1, O_ix_2, O_ix_3, O_ix_4, O_eq_ss, O_ne_ss, O_eq_ii, O_ne_ii, O_in_1, O_in_2, O_in_3, O_lt, O_le, O_gt, O_ge, O_add, O_sub, O_neg, O_int, O_intb, O_lent, O_min, O_max, O_tuplet, PV.bl.injEq, PV.int.injEq, PV.str.injEq, exists_eq_left', exists_eq_left, List.set_cons_zero, List.set_cons_succ, List.length_cons, List.length_nil, if_true, if_false, Bool.false_eq_true, decide_true, decide_false, ite_true, ite_false, is1, tru, Bool.not_true, Bool.not_false, List.length_map, e1, e2]
  unfold t_law_is_program_1
  rw [Q_seq]
  generalize hσ : [some (PV.tup (es.map Ex.pv)), none, none] = σ0
  refine wp_for2 ?_
  subst hσ
  have in_ : in62 (es.length : Int) = true := by unfold in62; simp; omega
  simp (decide := true) (implicitDefEqProofs := false) only [Ex.ok_words, NX_RBt, NX_SKe, NX_LKt, Q_ret, Q_expr, Q_set, Q_sub, Q_if, Q_seq, Q_next, Q_ct, Q_bk, Q_retN, LK_nx, LK_ct, LK_bk, LK_rt, W_rng1, gName, SK_nx, SK_rt, SK_bk, SK_ct, RB_nx, RB_rt, W_var0, W_varS, W_c, W_op2, W_op1, W_nil, W_cons, W_fn, W_mt, W_call, W_tup, W_lst, W_dct0, W_pn, W_part, W_sl, W_isTy, W_tru, W_bl, W_and, W_or, W_not, W_eBl, W_if, W_eAnd, W_eOr, W_yes, O_ix_0, O_ix_1, O_ix_2, O_ix_3, O_ix_4, O_eq_ss, O_ne_ss, O_eq_ii, O_ne_ii, O_in_1, O_in_2, O_in_3, O_lt, O_le, O_gt, O_ge, O_add, O_sub, O_neg, O_int, O_intb, O_lent, O_min, O_max, O_tuplet, PV.bl.injEq, PV.int.injEq, PV.str.injEq, exists_eq_left', exists_eq_left, List.set_cons_zero, List.set_cons_succ, List.length_cons, List.length_nil, if_true, if_false, Bool.false_eq_true, decide_true, decide_false, ite_true, ite_false, List.length_map, Int.toNat_natCast]
  refine ⟨in_, ?_⟩
  refine loop_rng (i := 1) (fun j σ g' => ∃ x1 m, σ = [some (PV.tup (es.map Ex.pv)), x1, none] ∧ g' = g ++ m) ⟨none, [], rfl, by simp⟩ ?_ ?_
  · rintro j σ g' hj ⟨x1, m, rfl, rfl⟩
    have hm : es[j]? = some es[j] := List.getElem?_eq_getElem hj
    have ix : ∀ g Q, O (opIx (.tup (es.map Ex.pv)) (.int (j : Int)) g) Q = Q es[j].pv g := fun g Q => O_ix_t g Q (atI_ok (by omega) (by rw [List.getElem?_map, Int.toNat_natCast, hm]; rfl))
    have hmem := List.getElem_mem hj
    have hc : es[j].count ≤ 80 := by
      have : ∀ (l : List Ex) (e : Ex), e ∈ l → e.count ≤ (l.map Ex.count).sum := by
        intro l
        induction l with
        | nil => intro e h; cases h
        | cons a r ih =>
          intro e h
          have h0 : ∀ l : List Ex, 0 ≤ (l.map Ex.count).sum := by
            intro l
            induction l with
            | nil => simp
            | cons b s ih2 => have := b.count_pos; simp only [List.map_cons, List.sum_cons]; omega
          have := a.count_pos
          have := h0 r
          simp only [List.map_cons, List.sum_cons]
          rcases List.mem_cons.mp h with rfl | h
          · omega
          · have := ih e h
            omega
      have h2 := this es _ hmem
      have h3 := P.ct
      omega
    simp (decide := true) (implicitDefEqProofs := false) only [Ex.ok_words, NX_RBt, NX_SKe, NX_LKt, Q_ret, Q_expr, Q_set, Q_sub, Q_if, Q_seq, Q_next, Q_ct, Q_bk, Q_retN, LK_nx, LK_ct, LK_bk, LK_rt, W_rng1, gName, SK_nx, SK_rt, SK_bk, SK_ct, RB_nx, RB_rt, W_var0, W_varS, W_c, W_op2, W_op1, W_nil, W_cons, W_fn, W_mt, W_call, W_tup, W_lst, W_dct0, W_pn, W_part, W_sl, W_isTy, W_tru, W_bl, W_and, W_or, W_not, W_eBl, W_if, W_eAnd, W_eOr, W_yes, O_ix_0, O_ix_1, O_ix_2, O_ix_3, O_ix_4, O_eq_ss, O_ne_ss, O_eq_ii, O_ne_ii, O_in_1, O_in_2, O_in_3, O_lt, O_le, O_gt, O_ge, O_add, O_sub, O_neg, O_int, O_intb, O_lent, O_min, O_max, O_tuplet, PV.bl.injEq, PV.int.injEq, PV.str.injEq, exists_eq_left', exists_eq_left, List.set_cons_zero, List.set_cons_succ, List.length_cons, List.length_nil, if_true, if_false, Bool.false_eq_true, decide_true, decide_false, ite_true, ite_false, ix]
    have e17 : n + 17 = 2 * 8 + n + 1 := by omega
    rw [e17]
    refine w_l_is_expression n 8 (P.ok j _ hm) (P.dp _ hmem) (by omega) (by have := P.dp _ hmem; omega) (by omega) fun m2 => ?_
    simp (decide := true) (implicitDefEqProofs := false) only [Ex.ok_words, NX_RBt, NX_SKe, NX_LKt, Q_ret, Q_expr, Q_set, Q_sub, Q_if, Q_seq, Q_next, Q_ct, Q_bk, Q_retN, LK_nx, LK_ct, LK_bk, LK_rt, W_rng1, gName, SK_nx, SK_rt, SK_bk, SK_ct, RB_nx, RB_rt, W_var0, W_varS, W_c, W_op2, W_op1, W_nil, W_cons, W_fn, W_mt, W_call, W_tup, W_lst, W_dct0, W_pn, W_part, W_sl, W_isTy, W_tru, W_bl, W_and, W_or, W_not, W_eBl, W_if, W_eAnd, W_eOr, W_yes, O_ix_0, O_ix_1, O_ix_2, O_ix_3, O_ix_4, O_eq_ss, O_ne_ss, O_eq_ii, O_ne_ii, O_in_1, O_in_2, O_in_3, O_lt, O_le, O_gt, O_ge, O_add, O_sub, O_neg, O_int, O_intb, O_lent, O_min, O_max, O_tuplet, PV.bl.injEq, PV.int.injEq, PV.str.injEq, exists_eq_left', exists_eq_left, List.set_cons_zero, List.set_cons_succ, List.length_cons, List.length_nil, if_true, if_false, Bool.false_eq_true, decide_true, decide_false, ite_true, ite_false, tru, Bool.not_true]
    exact ⟨_, m ++ m2, rfl, by simp⟩
  · rintro σ g' ⟨x1, m, rfl, rfl⟩
    rw [SK_nx]
    unfold t_law_is_program_2
    rw [Q_seq, Q_ret (NX_SK (n := sNext) (NX_RB (Q := Q))), W_op2]
    refine w_counts (n + 16) (es := es) (by omega) (fun e he => by have := P.dp e he; omega) ?_ (fun m2 => ?_) (by simp)
    · rw [W_bs, W_var _ _ _ _ (.tup (es.map Ex.pv)) rfl, bs_tup]
      exact ⟨fun m => items_tup _ _, [], by simp⟩
    have := P.ct
    simp (decide := true) (implicitDefEqProofs := false) only [Ex.ok_words, NX_RBt, NX_SKe, NX_LKt, Q_ret, Q_expr, Q_set, Q_sub, Q_if, Q_seq, Q_next, Q_ct, Q_bk, Q_retN, LK_nx, LK_ct, LK_bk, LK_rt, W_rng1, gName, SK_nx, SK_rt, SK_bk, SK_ct, RB_nx, RB_rt, W_var0, W_varS, W_c, W_op2, W_op1, W_nil, W_cons, W_fn, W_mt, W_call, W_tup, W_lst, W_dct0, W_pn, W_part, W_sl, W_isTy, W_tru, W_bl, W_and, W_or, W_not, W_eBl, W_if, W_eAnd, W_eOr, W_yes, O_ix_0, O_ix_1, O_ix_2, O_ix_3, O_ix_4, O_eq_ss, O_ne_ss, O_eq_ii, O_ne_ii, O_in_1, O_in_2, O_in_3, O_lt, O_le, O_gt, O_ge, O_add, O_sub, O_neg, O_int, O_intb, O_lent, O_min, O_max, O_tuplet, PV.bl.injEq, PV.int.injEq, PV.str.injEq, exists_eq_left', exists_eq_left, List.set_cons_zero, List.set_cons_succ, List.length_cons, List.length_nil, if_true, if_false, Bool.false_eq_true, decide_true, decide_false, ite_true, ite_false, this]
    have := q (m ++ m2)
    simpa using this
end K19
end

section
set_option maxRecDepth 100000
set_option maxHeartbeats 4000000
/-! the law's own folding -/
namespace K19
open PySem Vm

/-- small, well made -/
structure Sm (e : Ex) : Prop where
  ok : e.ok 4 false = true
  dp : e.dep ≤ 50
  ct : e.count ≤ 90
theorem Sm.part {e r : Ex} (s : Sm e) (h : r ∈ e.parts) : Sm r := ⟨Ex.ok_part s.ok h, by have := Ex.dep_part h; have := s.dp; omega, by have := Ex.count_part h; have := s.ct; omega⟩
theorem w_l_has_tell : ∀ (n : Nat) (e : Ex) {g : G} {Q : PV → G → Prop}, Sm e → e.dep ≤ n → (∀ m, Q (.bl e.tells) (g ++ m)) → WC (CF (n + 1)) ("", "_law_has_tell") [e.pv] g Q
  | 0, e, g, Q, s, h, q => by have := e.dep_pos; omega
  | n + 1, e, g, Q, s, h, q => by
    refine wc_body (c_law_has_tell (n + 1) _ g) ?_
    simp (decide := true) (implicitDefEqProofs := false) only [b_law_has_tell, Ex.ok_words, NX_RBt, NX_SKe, NX_LKt, Q_ret, Q_expr, Q_set, Q_sub, Q_if, Q_seq, Q_next, Q_ct, Q_bk, Q_retN, LK_nx, LK_ct, LK_bk, LK_rt, W_rng1, gName, SK_nx, SK_rt, SK_bk, SK_ct, RB_nx, RB_rt, W_var0, W_varS, W_c, W_op2, W_op1, W_nil, W_cons, W_fn, W_mt, W_call, W_tup, W_lst, W_dct0, W_pn, W_part, W_sl, W_isTy, W_tru, W_bl, W_and, W_or, W_not, W_eBl, W_if, W_eAnd, W_eOr, W_yes, O_ix_0, O_ix_1, O_ix_2, O_ix_3, O_ix_4, O_eq_ss, O_ne_ss, O_eq_ii, O_ne_ii, O_in_1, O_in_2, O_in_3, O_lt, O_le, O_gt, O_ge, O_add, O_sub, O_neg, O_int, O_intb, O_lent, O_min, O_max, O_tuplet, PV.bl.injEq, PV.int.injEq, PV.str.injEq, exists_eq_left', exists_eq_left, List.set_cons_zero, List.set_cons_succ, List.length_cons, List.length_nil, if_true, if_false, Bool.false_eq_true, decide_true, decide_false, ite_true, ite_false, O_hd, Ex.hd_ok, tru]
    by_cases ht : e.hd = "tell"
    · simp (decide := true) only [ht]
      have := q []
      rw [Ex.tells_eq, ht] at this
      simpa (decide := true) using this
    · simp (decide := true) only [ht]
      refine wp_filter Ex.pv e.parts Ex.tells (by simp) (by cases e <;> simp [Ex.parts, big]) ?_ ?_
      · simp (decide := true) (implicitDefEqProofs := false) only [W_bs, Ex.ok_words, NX_RBt, NX_SKe, NX_LKt, Q_ret, Q_expr, Q_set, Q_sub, Q_if, Q_seq, Q_next, Q_ct, Q_bk, Q_retN, LK_nx, LK_ct, LK_bk, LK_rt, W_rng1, gName, SK_nx, SK_rt, SK_bk, SK_ct, RB_nx, RB_rt, W_var0, W_varS, W_c, W_op2, W_op1, W_nil, W_cons, W_fn, W_mt, W_call, W_tup, W_lst, W_dct0, W_pn, W_part, W_sl, W_isTy, W_tru, W_bl, W_and, W_or, W_not, W_eBl, W_if, W_eAnd, W_eOr, W_yes, O_ix_0, O_ix_1, O_ix_2, O_ix_3, O_ix_4, O_eq_ss, O_ne_ss, O_eq_ii, O_ne_ii, O_in_1, O_in_2, O_in_3, O_lt, O_le, O_gt, O_ge, O_add, O_sub, O_neg, O_int, O_intb, O_lent, O_min, O_max, O_tuplet, PV.bl.injEq, PV.int.injEq, PV.str.injEq, exists_eq_left', exists_eq_left, List.set_cons_zero, List.set_cons_succ, List.length_cons, List.length_nil, if_true, if_false, Bool.false_eq_true, decide_true, decide_false, ite_true, ite_false]
        refine w_within n e fun m => ?_
        have at_ : (g ++ GO.lst (e.parts.map Ex.pv) :: m)[g.length]? = some (.lst (e.parts.map Ex.pv)) := by simp
        rw [bs_ref at_]
        refine ⟨items_ref at_, fun m2 => ?_⟩
        generalize hg : (g ++ GO.lst (e.parts.map Ex.pv) :: m) = g1
        have at2 : ((g1 ++ GO.lst ((e.parts.filter Ex.tells).map Ex.pv) :: m2) ++ [GO.lst []])[g1.length]? = some (.lst ((e.parts.filter Ex.tells).map Ex.pv)) := by simp
        have D : Dat (.tup ((e.parts.filter Ex.tells).map Ex.pv)) := Ex.Dat_list (Nat.le_trans (List.length_filter_le _ _) (by cases e <;> simp [Ex.parts])) fun r hr => by
          have := s.part (List.mem_filter.mp hr).1
          exact ⟨4, false, this.ok, this.dp, this.ct⟩
        rw [O_ne_lnil at2 new_at D]
        have := q (GO.lst (e.parts.map Ex.pv) :: m ++ (GO.lst ((e.parts.filter Ex.tells).map Ex.pv) :: m2 ++ [GO.lst []]))
        rw [Ex.tells_eq, decide_eq_false ht, Bool.false_or] at this
        have e1 : (!((e.parts.filter Ex.tells).map Ex.pv).isEmpty) = (e.parts.map Ex.tells).any id := by
          generalize e.parts = l
          induction l with
          | nil => rfl
          | cons a r ih =>
            cases h : a.tells <;> simp [List.filter_cons, h] at ih ⊢
            exact ih
        rw [e1, ← hg]
        simpa [RB, SK] using this
      · intro r g' Q' hr hq
        have hd := Ex.dep_part hr
        simp (decide := true) (implicitDefEqProofs := false) only [wipeP, Ex.ok_words, NX_RBt, NX_SKe, NX_LKt, Q_ret, Q_expr, Q_set, Q_sub, Q_if, Q_seq, Q_next, Q_ct, Q_bk, Q_retN, LK_nx, LK_ct, LK_bk, LK_rt, W_rng1, gName, SK_nx, SK_rt, SK_bk, SK_ct, RB_nx, RB_rt, W_var0, W_varS, W_c, W_op2, W_op1, W_nil, W_cons, W_fn, W_mt, W_call, W_tup, W_lst, W_dct0, W_pn, W_part, W_sl, W_isTy, W_tru, W_bl, W_and, W_or, W_not, W_eBl, W_if, W_eAnd, W_eOr, W_yes, O_ix_0, O_ix_1, O_ix_2, O_ix_3, O_ix_4, O_eq_ss, O_ne_ss, O_eq_ii, O_ne_ii, O_in_1, O_in_2, O_in_3, O_lt, O_le, O_gt, O_ge, O_add, O_sub, O_neg, O_int, O_intb, O_lent, O_min, O_max, O_tuplet, PV.bl.injEq, PV.int.injEq, PV.str.injEq, exists_eq_left', exists_eq_left, List.set_cons_zero, List.set_cons_succ, List.length_cons, List.length_nil, if_true, if_false, Bool.false_eq_true, decide_true, decide_false, ite_true, ite_false]
        refine w_l_has_tell n r (s.part hr) (by omega) fun m => ?_
        simp (decide := true) (implicitDefEqProofs := false) only [tru]
        exact hq m
theorem O_m1_1 (a : PV) (g : G) (Q : PV → G → Prop) : O (opIx (.tup [a]) (.int (-1)) g) Q = Q a g := by simp [O, opIx, L2.atI, L2.ixN]
theorem O_m1_2 (a b : PV) (g : G) (Q : PV → G → Prop) : O (opIx (.tup [a, b]) (.int (-1)) g) Q = Q b g := by simp [O, opIx, L2.atI, L2.ixN]
theorem O_m1_3 (a b c : PV) (g : G) (Q : PV → G → Prop) : O (opIx (.tup [a, b, c]) (.int (-1)) g) Q = Q c g := by simp [O, opIx, L2.atI, L2.ixN]
theorem O_l2_0 {g : G} {Q : PV → G → Prop} {r : Nat} {a b : PV} (h : g[r]? = some (.lst [a, b])) : O (opIx (.ref r) (.int 0) g) Q = Q a g := O_ix_l g Q h (atI_ok (by decide) rfl)
theorem O_l2_1 {g : G} {Q : PV → G → Prop} {r : Nat} {a b : PV} (h : g[r]? = some (.lst [a, b])) : O (opIx (.ref r) (.int 1) g) Q = Q b g := O_ix_l g Q h (atI_ok (by decide) rfl)
theorem ty_pv (e : Ex) (g : G) : isTy "tuple" e.pv g = some true := by rw [Ex.pv_eq]; rfl
theorem ty_str (x : Str) (g : G) : isTy "tuple" (.str x) g = some false := rfl
theorem ty_int (x : Int) (g : G) : isTy "tuple" (.int x) g = some false := rfl
theorem O_eq_two {g : G} {Q : PV → G → Prop} {a b : Str} {p q : Nat} (ha : PyData.strOk a = true) (hb : PyData.strOk b = true) (hp : g[p]? = some (.lst [.str a, .str b])) (hq : g[q]? = some (.lst [.str "num", .str "num"])) : O (opEq (.ref p) (.ref q) g) Q = Q (.bl (decide (a = "num") && decide (b = "num"))) g := by
  have w := Ex.ok_words
  have := eqP_lists hp hq ⟨by simp [pdat, pdats, ha, hb], by simp [psz, pszs, deepF], by simp [pdp, pdps]⟩ ⟨by simp [pdat, pdats, w], by simp [psz, pszs, deepF], by simp [pdp, pdps]⟩
  simp [O, opEq, this, dpvs, dpv, PyData.eqvAll, PyData.eqv, beq_dec]
theorem w_l_fold1 (n : Nat) (e : Ex) {x1 x2 : Option PV} {g : G} {Q : PV → G → Prop} (s : Sm e) (hn : e.dep ≤ n) (q : ∀ m, Q e.fold1.pv (g ++ m)) : WS (t_law_folded_3 (CF (n + 1))) [some e.pv, x1, x2, none, none] g (RB Q) := by
  have q0 := q []
  rw [List.append_nil] at q0
  cases e with
  | plus a b =>
    simp (decide := true) (implicitDefEqProofs := false) only [t_law_folded_3, t_law_folded_4, Ex.pv, Ex.ok_words, NX_RBt, NX_SKe, NX_LKt, Q_ret, Q_expr, Q_set, Q_sub, Q_if, Q_seq, Q_next, Q_ct, Q_bk, Q_retN, LK_nx, LK_ct, LK_bk, LK_rt, W_rng1, gName, SK_nx, SK_rt, SK_bk, SK_ct, RB_nx, RB_rt, W_var0, W_varS, W_c, W_op2, W_op1, W_nil, W_cons, W_fn, W_mt, W_call, W_tup, W_lst, W_dct0, W_pn, W_part, W_sl, W_isTy, W_tru, W_bl, W_and, W_or, W_not, W_eBl, W_if, W_eAnd, W_eOr, W_yes, O_ix_0, O_ix_1, O_ix_2, O_ix_3, O_ix_4, O_eq_ss, O_ne_ss, O_eq_ii, O_ne_ii, O_in_1, O_in_2, O_in_3, O_lt, O_le, O_gt, O_ge, O_add, O_sub, O_neg, O_int, O_intb, O_lent, O_min, O_max, O_tuplet, PV.bl.injEq, PV.int.injEq, PV.str.injEq, exists_eq_left', exists_eq_left, List.set_cons_zero, List.set_cons_succ, List.length_cons, List.length_nil, if_true, if_false, Bool.false_eq_true, decide_true, decide_false, ite_true, ite_false, O_hd, O_eq_two (Ex.hd_ok a) (Ex.hd_ok b) new_at2 new_at]
    by_cases ha : a.hd = "num"
    · by_cases hb : b.hd = "num"
      · obtain ⟨i, rfl⟩ := Ex.hd_num ha
        obtain ⟨j, rfl⟩ := Ex.hd_num hb
        simp (decide := true) (implicitDefEqProofs := false) only [Ex.hd, Ex.ok_words, NX_RBt, NX_SKe, NX_LKt, Q_ret, Q_expr, Q_set, Q_sub, Q_if, Q_seq, Q_next, Q_ct, Q_bk, Q_retN, LK_nx, LK_ct, LK_bk, LK_rt, W_rng1, gName, SK_nx, SK_rt, SK_bk, SK_ct, RB_nx, RB_rt, W_var0, W_varS, W_c, W_op2, W_op1, W_nil, W_cons, W_fn, W_mt, W_call, W_tup, W_lst, W_dct0, W_pn, W_part, W_sl, W_isTy, W_tru, W_bl, W_and, W_or, W_not, W_eBl, W_if, W_eAnd, W_eOr, W_yes, O_ix_0, O_ix_1, O_ix_2, O_ix_3, O_ix_4, O_eq_ss, O_ne_ss, O_eq_ii, O_ne_ii, O_in_1, O_in_2, O_in_3, O_lt, O_le, O_gt, O_ge, O_add, O_sub, O_neg, O_int, O_intb, O_lent, O_min, O_max, O_tuplet, PV.bl.injEq, PV.int.injEq, PV.str.injEq, exists_eq_left', exists_eq_left, List.set_cons_zero, List.set_cons_succ, List.length_cons, List.length_nil, if_true, if_false, Bool.false_eq_true, decide_true, decide_false, ite_true, ite_false, O_val, Bool.and_self, O_l2_0 new_at]
        have := q [GO.lst [.str "num", .str "num"], GO.lst [.str "num", .str "num"], GO.lst [.int (i + j), .int (if i < j then 1 else 0)]]
        simpa [SK, RB, big, Ex.fold1, Ex.val, Ex.pv] using this
      · rw [Ex.fold1, Ex.val_none hb] at q
        simp (decide := true) (implicitDefEqProofs := false) only [ha, hb, Ex.ok_words, NX_RBt, NX_SKe, NX_LKt, Q_ret, Q_expr, Q_set, Q_sub, Q_if, Q_seq, Q_next, Q_ct, Q_bk, Q_retN, LK_nx, LK_ct, LK_bk, LK_rt, W_rng1, gName, SK_nx, SK_rt, SK_bk, SK_ct, RB_nx, RB_rt, W_var0, W_varS, W_c, W_op2, W_op1, W_nil, W_cons, W_fn, W_mt, W_call, W_tup, W_lst, W_dct0, W_pn, W_part, W_sl, W_isTy, W_tru, W_bl, W_and, W_or, W_not, W_eBl, W_if, W_eAnd, W_eOr, W_yes, O_ix_0, O_ix_1, O_ix_2, O_ix_3, O_ix_4, O_eq_ss, O_ne_ss, O_eq_ii, O_ne_ii, O_in_1, O_in_2, O_in_3, O_lt, O_le, O_gt, O_ge, O_add, O_sub, O_neg, O_int, O_intb, O_lent, O_min, O_max, O_tuplet, PV.bl.injEq, PV.int.injEq, PV.str.injEq, exists_eq_left', exists_eq_left, List.set_cons_zero, List.set_cons_succ, List.length_cons, List.length_nil, if_true, if_false, Bool.false_eq_true, decide_true, decide_false, ite_true, ite_false, Bool.and_false, Bool.and_true, t_law_folded_5, t_law_folded_6, t_law_folded_7, t_law_folded_8, t_law_folded_9, t_law_folded_10, O_m1_3, ty_pv, tru, O_hd]
        have := q [GO.lst [.str a.hd, .str b.hd], GO.lst [.str "num", .str "num"]]
        cases hv : a.val <;> rw [hv] at this <;> simpa [Ex.pv, ha] using this
    · rw [Ex.fold1, Ex.val_none ha] at q
      simp (decide := true) (implicitDefEqProofs := false) only [ha, Ex.ok_words, NX_RBt, NX_SKe, NX_LKt, Q_ret, Q_expr, Q_set, Q_sub, Q_if, Q_seq, Q_next, Q_ct, Q_bk, Q_retN, LK_nx, LK_ct, LK_bk, LK_rt, W_rng1, gName, SK_nx, SK_rt, SK_bk, SK_ct, RB_nx, RB_rt, W_var0, W_varS, W_c, W_op2, W_op1, W_nil, W_cons, W_fn, W_mt, W_call, W_tup, W_lst, W_dct0, W_pn, W_part, W_sl, W_isTy, W_tru, W_bl, W_and, W_or, W_not, W_eBl, W_if, W_eAnd, W_eOr, W_yes, O_ix_0, O_ix_1, O_ix_2, O_ix_3, O_ix_4, O_eq_ss, O_ne_ss, O_eq_ii, O_ne_ii, O_in_1, O_in_2, O_in_3, O_lt, O_le, O_gt, O_ge, O_add, O_sub, O_neg, O_int, O_intb, O_lent, O_min, O_max, O_tuplet, PV.bl.injEq, PV.int.injEq, PV.str.injEq, exists_eq_left', exists_eq_left, List.set_cons_zero, List.set_cons_succ, List.length_cons, List.length_nil, if_true, if_false, Bool.false_eq_true, decide_true, decide_false, ite_true, ite_false, Bool.false_and, t_law_folded_5, t_law_folded_6, t_law_folded_7, t_law_folded_8, t_law_folded_9, t_law_folded_10, O_m1_3, ty_pv, tru, O_hd]
      have := q [GO.lst [.str a.hd, .str b.hd], GO.lst [.str "num", .str "num"]]
      simpa [Ex.pv] using this
  | less a b =>
    simp (decide := true) (implicitDefEqProofs := false) only [t_law_folded_3, t_law_folded_4, Ex.pv, Ex.ok_words, NX_RBt, NX_SKe, NX_LKt, Q_ret, Q_expr, Q_set, Q_sub, Q_if, Q_seq, Q_next, Q_ct, Q_bk, Q_retN, LK_nx, LK_ct, LK_bk, LK_rt, W_rng1, gName, SK_nx, SK_rt, SK_bk, SK_ct, RB_nx, RB_rt, W_var0, W_varS, W_c, W_op2, W_op1, W_nil, W_cons, W_fn, W_mt, W_call, W_tup, W_lst, W_dct0, W_pn, W_part, W_sl, W_isTy, W_tru, W_bl, W_and, W_or, W_not, W_eBl, W_if, W_eAnd, W_eOr, W_yes, O_ix_0, O_ix_1, O_ix_2, O_ix_3, O_ix_4, O_eq_ss, O_ne_ss, O_eq_ii, O_ne_ii, O_in_1, O_in_2, O_in_3, O_lt, O_le, O_gt, O_ge, O_add, O_sub, O_neg, O_int, O_intb, O_lent, O_min, O_max, O_tuplet, PV.bl.injEq, PV.int.injEq, PV.str.injEq, exists_eq_left', exists_eq_left, List.set_cons_zero, List.set_cons_succ, List.length_cons, List.length_nil, if_true, if_false, Bool.false_eq_true, decide_true, decide_false, ite_true, ite_false, O_hd, O_eq_two (Ex.hd_ok a) (Ex.hd_ok b) new_at2 new_at]
    by_cases ha : a.hd = "num"
    · by_cases hb : b.hd = "num"
      · obtain ⟨i, rfl⟩ := Ex.hd_num ha
        obtain ⟨j, rfl⟩ := Ex.hd_num hb
        simp (decide := true) (implicitDefEqProofs := false) only [Ex.hd, Ex.ok_words, NX_RBt, NX_SKe, NX_LKt, Q_ret, Q_expr, Q_set, Q_sub, Q_if, Q_seq, Q_next, Q_ct, Q_bk, Q_retN, LK_nx, LK_ct, LK_bk, LK_rt, W_rng1, gName, SK_nx, SK_rt, SK_bk, SK_ct, RB_nx, RB_rt, W_var0, W_varS, W_c, W_op2, W_op1, W_nil, W_cons, W_fn, W_mt, W_call, W_tup, W_lst, W_dct0, W_pn, W_part, W_sl, W_isTy, W_tru, W_bl, W_and, W_or, W_not, W_eBl, W_if, W_eAnd, W_eOr, W_yes, O_ix_0, O_ix_1, O_ix_2, O_ix_3, O_ix_4, O_eq_ss, O_ne_ss, O_eq_ii, O_ne_ii, O_in_1, O_in_2, O_in_3, O_lt, O_le, O_gt, O_ge, O_add, O_sub, O_neg, O_int, O_intb, O_lent, O_min, O_max, O_tuplet, PV.bl.injEq, PV.int.injEq, PV.str.injEq, exists_eq_left', exists_eq_left, List.set_cons_zero, List.set_cons_succ, List.length_cons, List.length_nil, if_true, if_false, Bool.false_eq_true, decide_true, decide_false, ite_true, ite_false, O_val, Bool.and_self, O_l2_1 new_at]
        have := q [GO.lst [.str "num", .str "num"], GO.lst [.str "num", .str "num"], GO.lst [.int (i + j), .int (if i < j then 1 else 0)]]
        by_cases hij : i < j <;> simpa [SK, RB, big, Ex.fold1, Ex.val, Ex.pv, hij] using this
      · rw [Ex.fold1, Ex.val_none hb] at q
        simp (decide := true) (implicitDefEqProofs := false) only [ha, hb, Ex.ok_words, NX_RBt, NX_SKe, NX_LKt, Q_ret, Q_expr, Q_set, Q_sub, Q_if, Q_seq, Q_next, Q_ct, Q_bk, Q_retN, LK_nx, LK_ct, LK_bk, LK_rt, W_rng1, gName, SK_nx, SK_rt, SK_bk, SK_ct, RB_nx, RB_rt, W_var0, W_varS, W_c, W_op2, W_op1, W_nil, W_cons, W_fn, W_mt, W_call, W_tup, W_lst, W_dct0, W_pn, W_part, W_sl, W_isTy, W_tru, W_bl, W_and, W_or, W_not, W_eBl, W_if, W_eAnd, W_eOr, W_yes, O_ix_0, O_ix_1, O_ix_2, O_ix_3, O_ix_4, O_eq_ss, O_ne_ss, O_eq_ii, O_ne_ii, O_in_1, O_in_2, O_in_3, O_lt, O_le, O_gt, O_ge, O_add, O_sub, O_neg, O_int, O_intb, O_lent, O_min, O_max, O_tuplet, PV.bl.injEq, PV.int.injEq, PV.str.injEq, exists_eq_left', exists_eq_left, List.set_cons_zero, List.set_cons_succ, List.length_cons, List.length_nil, if_true, if_false, Bool.false_eq_true, decide_true, decide_false, ite_true, ite_false, Bool.and_false, Bool.and_true, t_law_folded_5, t_law_folded_6, t_law_folded_7, t_law_folded_8, t_law_folded_9, t_law_folded_10, O_m1_3, ty_pv, tru, O_hd]
        have := q [GO.lst [.str a.hd, .str b.hd], GO.lst [.str "num", .str "num"]]
        cases hv : a.val <;> rw [hv] at this <;> simpa [Ex.pv, ha] using this
    · rw [Ex.fold1, Ex.val_none ha] at q
      simp (decide := true) (implicitDefEqProofs := false) only [ha, Ex.ok_words, NX_RBt, NX_SKe, NX_LKt, Q_ret, Q_expr, Q_set, Q_sub, Q_if, Q_seq, Q_next, Q_ct, Q_bk, Q_retN, LK_nx, LK_ct, LK_bk, LK_rt, W_rng1, gName, SK_nx, SK_rt, SK_bk, SK_ct, RB_nx, RB_rt, W_var0, W_varS, W_c, W_op2, W_op1, W_nil, W_cons, W_fn, W_mt, W_call, W_tup, W_lst, W_dct0, W_pn, W_part, W_sl, W_isTy, W_tru, W_bl, W_and, W_or, W_not, W_eBl, W_if, W_eAnd, W_eOr, W_yes, O_ix_0, O_ix_1, O_ix_2, O_ix_3, O_ix_4, O_eq_ss, O_ne_ss, O_eq_ii, O_ne_ii, O_in_1, O_in_2, O_in_3, O_lt, O_le, O_gt, O_ge, O_add, O_sub, O_neg, O_int, O_intb, O_lent, O_min, O_max, O_tuplet, PV.bl.injEq, PV.int.injEq, PV.str.injEq, exists_eq_left', exists_eq_left, List.set_cons_zero, List.set_cons_succ, List.length_cons, List.length_nil, if_true, if_false, Bool.false_eq_true, decide_true, decide_false, ite_true, ite_false, Bool.false_and, t_law_folded_5, t_law_folded_6, t_law_folded_7, t_law_folded_8, t_law_folded_9, t_law_folded_10, O_m1_3, ty_pv, tru, O_hd]
      have := q [GO.lst [.str a.hd, .str b.hd], GO.lst [.str "num", .str "num"]]
      simpa [Ex.pv] using this
  | cond a b c =>
    simp (decide := true) (implicitDefEqProofs := false) only [t_law_folded_3, t_law_folded_4, t_law_folded_5, Ex.pv, Ex.ok_words, NX_RBt, NX_SKe, NX_LKt, Q_ret, Q_expr, Q_set, Q_sub, Q_if, Q_seq, Q_next, Q_ct, Q_bk, Q_retN, LK_nx, LK_ct, LK_bk, LK_rt, W_rng1, gName, SK_nx, SK_rt, SK_bk, SK_ct, RB_nx, RB_rt, W_var0, W_varS, W_c, W_op2, W_op1, W_nil, W_cons, W_fn, W_mt, W_call, W_tup, W_lst, W_dct0, W_pn, W_part, W_sl, W_isTy, W_tru, W_bl, W_and, W_or, W_not, W_eBl, W_if, W_eAnd, W_eOr, W_yes, O_ix_0, O_ix_1, O_ix_2, O_ix_3, O_ix_4, O_eq_ss, O_ne_ss, O_eq_ii, O_ne_ii, O_in_1, O_in_2, O_in_3, O_lt, O_le, O_gt, O_ge, O_add, O_sub, O_neg, O_int, O_intb, O_lent, O_min, O_max, O_tuplet, PV.bl.injEq, PV.int.injEq, PV.str.injEq, exists_eq_left', exists_eq_left, List.set_cons_zero, List.set_cons_succ, List.length_cons, List.length_nil, if_true, if_false, Bool.false_eq_true, decide_true, decide_false, ite_true, ite_false, O_hd, Ex.hd_ok]
    by_cases ha : a.hd = "num"
    · obtain ⟨i, rfl⟩ := Ex.hd_num ha
      simp (decide := true) (implicitDefEqProofs := false) only [Ex.hd, Ex.ok_words, NX_RBt, NX_SKe, NX_LKt, Q_ret, Q_expr, Q_set, Q_sub, Q_if, Q_seq, Q_next, Q_ct, Q_bk, Q_retN, LK_nx, LK_ct, LK_bk, LK_rt, W_rng1, gName, SK_nx, SK_rt, SK_bk, SK_ct, RB_nx, RB_rt, W_var0, W_varS, W_c, W_op2, W_op1, W_nil, W_cons, W_fn, W_mt, W_call, W_tup, W_lst, W_dct0, W_pn, W_part, W_sl, W_isTy, W_tru, W_bl, W_and, W_or, W_not, W_eBl, W_if, W_eAnd, W_eOr, W_yes, O_ix_0, O_ix_1, O_ix_2, O_ix_3, O_ix_4, O_eq_ss, O_ne_ss, O_eq_ii, O_ne_ii, O_in_1, O_in_2, O_in_3, O_lt, O_le, O_gt, O_ge, O_add, O_sub, O_neg, O_int, O_intb, O_lent, O_min, O_max, O_tuplet, PV.bl.injEq, PV.int.injEq, PV.str.injEq, exists_eq_left', exists_eq_left, List.set_cons_zero, List.set_cons_succ, List.length_cons, List.length_nil, if_true, if_false, Bool.false_eq_true, decide_true, decide_false, ite_true, ite_false, O_val, O_ix2 new_at]
      have := q [GO.lst [b.pv, c.pv]]
      rw [Ex.fold1] at this
      by_cases hi : i = 0 <;> simpa [Ex.val, hi] using this
    · rw [Ex.fold1, Ex.val_none ha] at q0
      simp (decide := true) (implicitDefEqProofs := false) only [ha, Ex.ok_words, NX_RBt, NX_SKe, NX_LKt, Q_ret, Q_expr, Q_set, Q_sub, Q_if, Q_seq, Q_next, Q_ct, Q_bk, Q_retN, LK_nx, LK_ct, LK_bk, LK_rt, W_rng1, gName, SK_nx, SK_rt, SK_bk, SK_ct, RB_nx, RB_rt, W_var0, W_varS, W_c, W_op2, W_op1, W_nil, W_cons, W_fn, W_mt, W_call, W_tup, W_lst, W_dct0, W_pn, W_part, W_sl, W_isTy, W_tru, W_bl, W_and, W_or, W_not, W_eBl, W_if, W_eAnd, W_eOr, W_yes, O_ix_0, O_ix_1, O_ix_2, O_ix_3, O_ix_4, O_eq_ss, O_ne_ss, O_eq_ii, O_ne_ii, O_in_1, O_in_2, O_in_3, O_lt, O_le, O_gt, O_ge, O_add, O_sub, O_neg, O_int, O_intb, O_lent, O_min, O_max, O_tuplet, PV.bl.injEq, PV.int.injEq, PV.str.injEq, exists_eq_left', exists_eq_left, List.set_cons_zero, List.set_cons_succ, List.length_cons, List.length_nil, if_true, if_false, Bool.false_eq_true, decide_true, decide_false, ite_true, ite_false, t_law_folded_6, t_law_folded_7, t_law_folded_8, t_law_folded_9, t_law_folded_10, O_m1_4, ty_pv, tru, O_hd]
      exact q0
  | lett x a b =>
    simp (decide := true) (implicitDefEqProofs := false) only [t_law_folded_3, t_law_folded_4, t_law_folded_5, t_law_folded_6, t_law_folded_7, t_law_folded_8, t_law_folded_9, t_law_folded_10, Ex.pv, Ex.ok_words, NX_RBt, NX_SKe, NX_LKt, Q_ret, Q_expr, Q_set, Q_sub, Q_if, Q_seq, Q_next, Q_ct, Q_bk, Q_retN, LK_nx, LK_ct, LK_bk, LK_rt, W_rng1, gName, SK_nx, SK_rt, SK_bk, SK_ct, RB_nx, RB_rt, W_var0, W_varS, W_c, W_op2, W_op1, W_nil, W_cons, W_fn, W_mt, W_call, W_tup, W_lst, W_dct0, W_pn, W_part, W_sl, W_isTy, W_tru, W_bl, W_and, W_or, W_not, W_eBl, W_if, W_eAnd, W_eOr, W_yes, O_ix_0, O_ix_1, O_ix_2, O_ix_3, O_ix_4, O_eq_ss, O_ne_ss, O_eq_ii, O_ne_ii, O_in_1, O_in_2, O_in_3, O_lt, O_le, O_gt, O_ge, O_add, O_sub, O_neg, O_int, O_intb, O_lent, O_min, O_max, O_tuplet, PV.bl.injEq, PV.int.injEq, PV.str.injEq, exists_eq_left', exists_eq_left, List.set_cons_zero, List.set_cons_succ, List.length_cons, List.length_nil, if_true, if_false, Bool.false_eq_true, decide_true, decide_false, ite_true, ite_false, O_hd, Ex.hd_ok, O_m1_4, ty_pv, tru]
    rw [Ex.fold1] at q0
    by_cases hb : b.hd = "num"
    · obtain ⟨j, rfl⟩ := Ex.hd_num hb
      have hj : (Ex.num j).hd = "num" := rfl
      cases hs : a.simple with
      | true =>
        rw [hs] at q0
        rw [Ex.simple_eq] at hs
        simp (decide := true) (implicitDefEqProofs := false) only [hj, hs, Ex.ok_words, NX_RBt, NX_SKe, NX_LKt, Q_ret, Q_expr, Q_set, Q_sub, Q_if, Q_seq, Q_next, Q_ct, Q_bk, Q_retN, LK_nx, LK_ct, LK_bk, LK_rt, W_rng1, gName, SK_nx, SK_rt, SK_bk, SK_ct, RB_nx, RB_rt, W_var0, W_varS, W_c, W_op2, W_op1, W_nil, W_cons, W_fn, W_mt, W_call, W_tup, W_lst, W_dct0, W_pn, W_part, W_sl, W_isTy, W_tru, W_bl, W_and, W_or, W_not, W_eBl, W_if, W_eAnd, W_eOr, W_yes, O_ix_0, O_ix_1, O_ix_2, O_ix_3, O_ix_4, O_eq_ss, O_ne_ss, O_eq_ii, O_ne_ii, O_in_1, O_in_2, O_in_3, O_lt, O_le, O_gt, O_ge, O_add, O_sub, O_neg, O_int, O_intb, O_lent, O_min, O_max, O_tuplet, PV.bl.injEq, PV.int.injEq, PV.str.injEq, exists_eq_left', exists_eq_left, List.set_cons_zero, List.set_cons_succ, List.length_cons, List.length_nil, if_true, if_false, Bool.false_eq_true, decide_true, decide_false, ite_true, ite_false]
        exact q0
      | false =>
        rw [hs] at q0
        rw [Ex.simple_eq] at hs
        simp (decide := true) (implicitDefEqProofs := false) only [hj, hs, Ex.ok_words, NX_RBt, NX_SKe, NX_LKt, Q_ret, Q_expr, Q_set, Q_sub, Q_if, Q_seq, Q_next, Q_ct, Q_bk, Q_retN, LK_nx, LK_ct, LK_bk, LK_rt, W_rng1, gName, SK_nx, SK_rt, SK_bk, SK_ct, RB_nx, RB_rt, W_var0, W_varS, W_c, W_op2, W_op1, W_nil, W_cons, W_fn, W_mt, W_call, W_tup, W_lst, W_dct0, W_pn, W_part, W_sl, W_isTy, W_tru, W_bl, W_and, W_or, W_not, W_eBl, W_if, W_eAnd, W_eOr, W_yes, O_ix_0, O_ix_1, O_ix_2, O_ix_3, O_ix_4, O_eq_ss, O_ne_ss, O_eq_ii, O_ne_ii, O_in_1, O_in_2, O_in_3, O_lt, O_le, O_gt, O_ge, O_add, O_sub, O_neg, O_int, O_intb, O_lent, O_min, O_max, O_tuplet, PV.bl.injEq, PV.int.injEq, PV.str.injEq, exists_eq_left', exists_eq_left, List.set_cons_zero, List.set_cons_succ, List.length_cons, List.length_nil, if_true, if_false, Bool.false_eq_true, decide_true, decide_false, ite_true, ite_false]
        exact q0
    · rw [Ex.val_none hb] at q0
      simp (decide := true) (implicitDefEqProofs := false) only [hb, Ex.ok_words, NX_RBt, NX_SKe, NX_LKt, Q_ret, Q_expr, Q_set, Q_sub, Q_if, Q_seq, Q_next, Q_ct, Q_bk, Q_retN, LK_nx, LK_ct, LK_bk, LK_rt, W_rng1, gName, SK_nx, SK_rt, SK_bk, SK_ct, RB_nx, RB_rt, W_var0, W_varS, W_c, W_op2, W_op1, W_nil, W_cons, W_fn, W_mt, W_call, W_tup, W_lst, W_dct0, W_pn, W_part, W_sl, W_isTy, W_tru, W_bl, W_and, W_or, W_not, W_eBl, W_if, W_eAnd, W_eOr, W_yes, O_ix_0, O_ix_1, O_ix_2, O_ix_3, O_ix_4, O_eq_ss, O_ne_ss, O_eq_ii, O_ne_ii, O_in_1, O_in_2, O_in_3, O_lt, O_le, O_gt, O_ge, O_add, O_sub, O_neg, O_int, O_intb, O_lent, O_min, O_max, O_tuplet, PV.bl.injEq, PV.int.injEq, PV.str.injEq, exists_eq_left', exists_eq_left, List.set_cons_zero, List.set_cons_succ, List.length_cons, List.length_nil, if_true, if_false, Bool.false_eq_true, decide_true, decide_false, ite_true, ite_false]
      cases hs : a.simple <;> rw [hs] at q0 <;> exact q0
  | look k x a b =>
    simp (decide := true) (implicitDefEqProofs := false) only [t_law_folded_3, t_law_folded_4, t_law_folded_5, t_law_folded_6, t_law_folded_7, t_law_folded_8, t_law_folded_9, t_law_folded_10, Ex.pv, Ex.ok_words, NX_RBt, NX_SKe, NX_LKt, Q_ret, Q_expr, Q_set, Q_sub, Q_if, Q_seq, Q_next, Q_ct, Q_bk, Q_retN, LK_nx, LK_ct, LK_bk, LK_rt, W_rng1, gName, SK_nx, SK_rt, SK_bk, SK_ct, RB_nx, RB_rt, W_var0, W_varS, W_c, W_op2, W_op1, W_nil, W_cons, W_fn, W_mt, W_call, W_tup, W_lst, W_dct0, W_pn, W_part, W_sl, W_isTy, W_tru, W_bl, W_and, W_or, W_not, W_eBl, W_if, W_eAnd, W_eOr, W_yes, O_ix_0, O_ix_1, O_ix_2, O_ix_3, O_ix_4, O_eq_ss, O_ne_ss, O_eq_ii, O_ne_ii, O_in_1, O_in_2, O_in_3, O_lt, O_le, O_gt, O_ge, O_add, O_sub, O_neg, O_int, O_intb, O_lent, O_min, O_max, O_tuplet, PV.bl.injEq, PV.int.injEq, PV.str.injEq, exists_eq_left', exists_eq_left, List.set_cons_zero, List.set_cons_succ, List.length_cons, List.length_nil, if_true, if_false, Bool.false_eq_true, decide_true, decide_false, ite_true, ite_false, O_hd, Ex.hd_ok, O_m1_5, ty_pv, tru]
    rw [← Ex.simple_eq]
    rw [Ex.fold1] at q0
    cases hs : b.simple <;> rw [hs] at q0 <;> simp (decide := true) (implicitDefEqProofs := false) only [Ex.ok_words, NX_RBt, NX_SKe, NX_LKt, Q_ret, Q_expr, Q_set, Q_sub, Q_if, Q_seq, Q_next, Q_ct, Q_bk, Q_retN, LK_nx, LK_ct, LK_bk, LK_rt, W_rng1, gName, SK_nx, SK_rt, SK_bk, SK_ct, RB_nx, RB_rt, W_var0, W_varS, W_c, W_op2, W_op1, W_nil, W_cons, W_fn, W_mt, W_call, W_tup, W_lst, W_dct0, W_pn, W_part, W_sl, W_isTy, W_tru, W_bl, W_and, W_or, W_not, W_eBl, W_if, W_eAnd, W_eOr, W_yes, O_ix_0, O_ix_1, O_ix_2, O_ix_3, O_ix_4, O_eq_ss, O_ne_ss, O_eq_ii, O_ne_ii, O_in_1, O_in_2, O_in_3, O_lt, O_le, O_gt, O_ge, O_add, O_sub, O_neg, O_int, O_intb, O_lent, O_min, O_max, O_tuplet, PV.bl.injEq, PV.int.injEq, PV.str.injEq, exists_eq_left', exists_eq_left, List.set_cons_zero, List.set_cons_succ, List.length_cons, List.length_nil, if_true, if_false, Bool.false_eq_true, decide_true, decide_false, ite_true, ite_false] <;> exact q0
  | way k x a b =>
    simp (decide := true) (implicitDefEqProofs := false) only [t_law_folded_3, t_law_folded_4, t_law_folded_5, t_law_folded_6, t_law_folded_7, t_law_folded_8, t_law_folded_9, t_law_folded_10, Ex.pv, Ex.ok_words, NX_RBt, NX_SKe, NX_LKt, Q_ret, Q_expr, Q_set, Q_sub, Q_if, Q_seq, Q_next, Q_ct, Q_bk, Q_retN, LK_nx, LK_ct, LK_bk, LK_rt, W_rng1, gName, SK_nx, SK_rt, SK_bk, SK_ct, RB_nx, RB_rt, W_var0, W_varS, W_c, W_op2, W_op1, W_nil, W_cons, W_fn, W_mt, W_call, W_tup, W_lst, W_dct0, W_pn, W_part, W_sl, W_isTy, W_tru, W_bl, W_and, W_or, W_not, W_eBl, W_if, W_eAnd, W_eOr, W_yes, O_ix_0, O_ix_1, O_ix_2, O_ix_3, O_ix_4, O_eq_ss, O_ne_ss, O_eq_ii, O_ne_ii, O_in_1, O_in_2, O_in_3, O_lt, O_le, O_gt, O_ge, O_add, O_sub, O_neg, O_int, O_intb, O_lent, O_min, O_max, O_tuplet, PV.bl.injEq, PV.int.injEq, PV.str.injEq, exists_eq_left', exists_eq_left, List.set_cons_zero, List.set_cons_succ, List.length_cons, List.length_nil, if_true, if_false, Bool.false_eq_true, decide_true, decide_false, ite_true, ite_false, O_hd, Ex.hd_ok, O_m1_5, ty_pv, tru]
    rw [← Ex.simple_eq]
    rw [Ex.fold1] at q0
    cases hs : b.simple <;> rw [hs] at q0 <;> simp (decide := true) (implicitDefEqProofs := false) only [Ex.ok_words, NX_RBt, NX_SKe, NX_LKt, Q_ret, Q_expr, Q_set, Q_sub, Q_if, Q_seq, Q_next, Q_ct, Q_bk, Q_retN, LK_nx, LK_ct, LK_bk, LK_rt, W_rng1, gName, SK_nx, SK_rt, SK_bk, SK_ct, RB_nx, RB_rt, W_var0, W_varS, W_c, W_op2, W_op1, W_nil, W_cons, W_fn, W_mt, W_call, W_tup, W_lst, W_dct0, W_pn, W_part, W_sl, W_isTy, W_tru, W_bl, W_and, W_or, W_not, W_eBl, W_if, W_eAnd, W_eOr, W_yes, O_ix_0, O_ix_1, O_ix_2, O_ix_3, O_ix_4, O_eq_ss, O_ne_ss, O_eq_ii, O_ne_ii, O_in_1, O_in_2, O_in_3, O_lt, O_le, O_gt, O_ge, O_add, O_sub, O_neg, O_int, O_intb, O_lent, O_min, O_max, O_tuplet, PV.bl.injEq, PV.int.injEq, PV.str.injEq, exists_eq_left', exists_eq_left, List.set_cons_zero, List.set_cons_succ, List.length_cons, List.length_nil, if_true, if_false, Bool.false_eq_true, decide_true, decide_false, ite_true, ite_false] <;> exact q0
  | anew x t a =>
    simp (decide := true) (implicitDefEqProofs := false) only [t_law_folded_3, t_law_folded_4, t_law_folded_5, t_law_folded_6, t_law_folded_7, t_law_folded_8, t_law_folded_9, t_law_folded_10, Ex.pv, Ex.ok_words, NX_RBt, NX_SKe, NX_LKt, Q_ret, Q_expr, Q_set, Q_sub, Q_if, Q_seq, Q_next, Q_ct, Q_bk, Q_retN, LK_nx, LK_ct, LK_bk, LK_rt, W_rng1, gName, SK_nx, SK_rt, SK_bk, SK_ct, RB_nx, RB_rt, W_var0, W_varS, W_c, W_op2, W_op1, W_nil, W_cons, W_fn, W_mt, W_call, W_tup, W_lst, W_dct0, W_pn, W_part, W_sl, W_isTy, W_tru, W_bl, W_and, W_or, W_not, W_eBl, W_if, W_eAnd, W_eOr, W_yes, O_ix_0, O_ix_1, O_ix_2, O_ix_3, O_ix_4, O_eq_ss, O_ne_ss, O_eq_ii, O_ne_ii, O_in_1, O_in_2, O_in_3, O_lt, O_le, O_gt, O_ge, O_add, O_sub, O_neg, O_int, O_intb, O_lent, O_min, O_max, O_tuplet, PV.bl.injEq, PV.int.injEq, PV.str.injEq, exists_eq_left', exists_eq_left, List.set_cons_zero, List.set_cons_succ, List.length_cons, List.length_nil, if_true, if_false, Bool.false_eq_true, decide_true, decide_false, ite_true, ite_false, O_hd, Ex.hd_ok, O_m1_4, ty_pv, tru]
    rw [← Ex.simple_eq]
    rw [Ex.fold1] at q0
    cases hs : a.simple <;> rw [hs] at q0 <;> simp (decide := true) (implicitDefEqProofs := false) only [Ex.ok_words, NX_RBt, NX_SKe, NX_LKt, Q_ret, Q_expr, Q_set, Q_sub, Q_if, Q_seq, Q_next, Q_ct, Q_bk, Q_retN, LK_nx, LK_ct, LK_bk, LK_rt, W_rng1, gName, SK_nx, SK_rt, SK_bk, SK_ct, RB_nx, RB_rt, W_var0, W_varS, W_c, W_op2, W_op1, W_nil, W_cons, W_fn, W_mt, W_call, W_tup, W_lst, W_dct0, W_pn, W_part, W_sl, W_isTy, W_tru, W_bl, W_and, W_or, W_not, W_eBl, W_if, W_eAnd, W_eOr, W_yes, O_ix_0, O_ix_1, O_ix_2, O_ix_3, O_ix_4, O_eq_ss, O_ne_ss, O_eq_ii, O_ne_ii, O_in_1, O_in_2, O_in_3, O_lt, O_le, O_gt, O_ge, O_add, O_sub, O_neg, O_int, O_intb, O_lent, O_min, O_max, O_tuplet, PV.bl.injEq, PV.int.injEq, PV.str.injEq, exists_eq_left', exists_eq_left, List.set_cons_zero, List.set_cons_succ, List.length_cons, List.length_nil, if_true, if_false, Bool.false_eq_true, decide_true, decide_false, ite_true, ite_false] <;> exact q0
  | clean c a =>
    have hc : c.dep ≤ n := by simp only [Ex.dep] at hn; omega
    have sc : Sm c := s.part (by simp [Ex.parts])
    simp (decide := true) (implicitDefEqProofs := false) only [t_law_folded_3, t_law_folded_4, t_law_folded_5, t_law_folded_6, t_law_folded_7, t_law_folded_8, t_law_folded_9, t_law_folded_10, Ex.pv, Ex.ok_words, NX_RBt, NX_SKe, NX_LKt, Q_ret, Q_expr, Q_set, Q_sub, Q_if, Q_seq, Q_next, Q_ct, Q_bk, Q_retN, LK_nx, LK_ct, LK_bk, LK_rt, W_rng1, gName, SK_nx, SK_rt, SK_bk, SK_ct, RB_nx, RB_rt, W_var0, W_varS, W_c, W_op2, W_op1, W_nil, W_cons, W_fn, W_mt, W_call, W_tup, W_lst, W_dct0, W_pn, W_part, W_sl, W_isTy, W_tru, W_bl, W_and, W_or, W_not, W_eBl, W_if, W_eAnd, W_eOr, W_yes, O_ix_0, O_ix_1, O_ix_2, O_ix_3, O_ix_4, O_eq_ss, O_ne_ss, O_eq_ii, O_ne_ii, O_in_1, O_in_2, O_in_3, O_lt, O_le, O_gt, O_ge, O_add, O_sub, O_neg, O_int, O_intb, O_lent, O_min, O_max, O_tuplet, PV.bl.injEq, PV.int.injEq, PV.str.injEq, exists_eq_left', exists_eq_left, List.set_cons_zero, List.set_cons_succ, List.length_cons, List.length_nil, if_true, if_false, Bool.false_eq_true, decide_true, decide_false, ite_true, ite_false, O_hd, Ex.hd_ok, O_m1_3, ty_pv, tru]
    rw [← Ex.simple_eq]
    cases hs : a.simple with
    | false =>
      rw [Ex.fold1, hs] at q0
      simp (decide := true) (implicitDefEqProofs := false) only [Ex.ok_words, NX_RBt, NX_SKe, NX_LKt, Q_ret, Q_expr, Q_set, Q_sub, Q_if, Q_seq, Q_next, Q_ct, Q_bk, Q_retN, LK_nx, LK_ct, LK_bk, LK_rt, W_rng1, gName, SK_nx, SK_rt, SK_bk, SK_ct, RB_nx, RB_rt, W_var0, W_varS, W_c, W_op2, W_op1, W_nil, W_cons, W_fn, W_mt, W_call, W_tup, W_lst, W_dct0, W_pn, W_part, W_sl, W_isTy, W_tru, W_bl, W_and, W_or, W_not, W_eBl, W_if, W_eAnd, W_eOr, W_yes, O_ix_0, O_ix_1, O_ix_2, O_ix_3, O_ix_4, O_eq_ss, O_ne_ss, O_eq_ii, O_ne_ii, O_in_1, O_in_2, O_in_3, O_lt, O_le, O_gt, O_ge, O_add, O_sub, O_neg, O_int, O_intb, O_lent, O_min, O_max, O_tuplet, PV.bl.injEq, PV.int.injEq, PV.str.injEq, exists_eq_left', exists_eq_left, List.set_cons_zero, List.set_cons_succ, List.length_cons, List.length_nil, if_true, if_false, Bool.false_eq_true, decide_true, decide_false, ite_true, ite_false]
      exact q0
    | true =>
      simp (decide := true) (implicitDefEqProofs := false) only [Ex.ok_words, NX_RBt, NX_SKe, NX_LKt, Q_ret, Q_expr, Q_set, Q_sub, Q_if, Q_seq, Q_next, Q_ct, Q_bk, Q_retN, LK_nx, LK_ct, LK_bk, LK_rt, W_rng1, gName, SK_nx, SK_rt, SK_bk, SK_ct, RB_nx, RB_rt, W_var0, W_varS, W_c, W_op2, W_op1, W_nil, W_cons, W_fn, W_mt, W_call, W_tup, W_lst, W_dct0, W_pn, W_part, W_sl, W_isTy, W_tru, W_bl, W_and, W_or, W_not, W_eBl, W_if, W_eAnd, W_eOr, W_yes, O_ix_0, O_ix_1, O_ix_2, O_ix_3, O_ix_4, O_eq_ss, O_ne_ss, O_eq_ii, O_ne_ii, O_in_1, O_in_2, O_in_3, O_lt, O_le, O_gt, O_ge, O_add, O_sub, O_neg, O_int, O_intb, O_lent, O_min, O_max, O_tuplet, PV.bl.injEq, PV.int.injEq, PV.str.injEq, exists_eq_left', exists_eq_left, List.set_cons_zero, List.set_cons_succ, List.length_cons, List.length_nil, if_true, if_false, Bool.false_eq_true, decide_true, decide_false, ite_true, ite_false]
      refine w_l_has_tell n c sc hc fun m => ?_
      have q1 := q m
      rw [Ex.fold1, hs] at q1
      simp (decide := true) (implicitDefEqProofs := false) only [tru, Ex.ok_words, NX_RBt, NX_SKe, NX_LKt, Q_ret, Q_expr, Q_set, Q_sub, Q_if, Q_seq, Q_next, Q_ct, Q_bk, Q_retN, LK_nx, LK_ct, LK_bk, LK_rt, W_rng1, gName, SK_nx, SK_rt, SK_bk, SK_ct, RB_nx, RB_rt, W_var0, W_varS, W_c, W_op2, W_op1, W_nil, W_cons, W_fn, W_mt, W_call, W_tup, W_lst, W_dct0, W_pn, W_part, W_sl, W_isTy, W_tru, W_bl, W_and, W_or, W_not, W_eBl, W_if, W_eAnd, W_eOr, W_yes, O_ix_0, O_ix_1, O_ix_2, O_ix_3, O_ix_4, O_eq_ss, O_ne_ss, O_eq_ii, O_ne_ii, O_in_1, O_in_2, O_in_3, O_lt, O_le, O_gt, O_ge, O_add, O_sub, O_neg, O_int, O_intb, O_lent, O_min, O_max, O_tuplet, PV.bl.injEq, PV.int.injEq, PV.str.injEq, exists_eq_left', exists_eq_left, List.set_cons_zero, List.set_cons_succ, List.length_cons, List.length_nil, if_true, if_false, Bool.false_eq_true, decide_true, decide_false, ite_true, ite_false]
      cases ht : c.tells <;> rw [ht] at q1 <;> simp (decide := true) (implicitDefEqProofs := false) only [Ex.ok_words, NX_RBt, NX_SKe, NX_LKt, Q_ret, Q_expr, Q_set, Q_sub, Q_if, Q_seq, Q_next, Q_ct, Q_bk, Q_retN, LK_nx, LK_ct, LK_bk, LK_rt, W_rng1, gName, SK_nx, SK_rt, SK_bk, SK_ct, RB_nx, RB_rt, W_var0, W_varS, W_c, W_op2, W_op1, W_nil, W_cons, W_fn, W_mt, W_call, W_tup, W_lst, W_dct0, W_pn, W_part, W_sl, W_isTy, W_tru, W_bl, W_and, W_or, W_not, W_eBl, W_if, W_eAnd, W_eOr, W_yes, O_ix_0, O_ix_1, O_ix_2, O_ix_3, O_ix_4, O_eq_ss, O_ne_ss, O_eq_ii, O_ne_ii, O_in_1, O_in_2, O_in_3, O_lt, O_le, O_gt, O_ge, O_add, O_sub, O_neg, O_int, O_intb, O_lent, O_min, O_max, O_tuplet, PV.bl.injEq, PV.int.injEq, PV.str.injEq, exists_eq_left', exists_eq_left, List.set_cons_zero, List.set_cons_succ, List.length_cons, List.length_nil, if_true, if_false, Bool.false_eq_true, decide_true, decide_false, ite_true, ite_false, Bool.not_true, Bool.not_false] <;> exact q1
  | num i =>
    simp (decide := true) (implicitDefEqProofs := false) only [t_law_folded_3, t_law_folded_4, t_law_folded_5, t_law_folded_6, t_law_folded_7, t_law_folded_8, t_law_folded_9, t_law_folded_10, Ex.pv, Ex.ok_words, NX_RBt, NX_SKe, NX_LKt, Q_ret, Q_expr, Q_set, Q_sub, Q_if, Q_seq, Q_next, Q_ct, Q_bk, Q_retN, LK_nx, LK_ct, LK_bk, LK_rt, W_rng1, gName, SK_nx, SK_rt, SK_bk, SK_ct, RB_nx, RB_rt, W_var0, W_varS, W_c, W_op2, W_op1, W_nil, W_cons, W_fn, W_mt, W_call, W_tup, W_lst, W_dct0, W_pn, W_part, W_sl, W_isTy, W_tru, W_bl, W_and, W_or, W_not, W_eBl, W_if, W_eAnd, W_eOr, W_yes, O_ix_0, O_ix_1, O_ix_2, O_ix_3, O_ix_4, O_eq_ss, O_ne_ss, O_eq_ii, O_ne_ii, O_in_1, O_in_2, O_in_3, O_lt, O_le, O_gt, O_ge, O_add, O_sub, O_neg, O_int, O_intb, O_lent, O_min, O_max, O_tuplet, PV.bl.injEq, PV.int.injEq, PV.str.injEq, exists_eq_left', exists_eq_left, List.set_cons_zero, List.set_cons_succ, List.length_cons, List.length_nil, if_true, if_false, Bool.false_eq_true, decide_true, decide_false, ite_true, ite_false, O_m1_2, ty_int, tru]
    exact q0
  | name x =>
    simp (decide := true) (implicitDefEqProofs := false) only [t_law_folded_3, t_law_folded_4, t_law_folded_5, t_law_folded_6, t_law_folded_7, t_law_folded_8, t_law_folded_9, t_law_folded_10, Ex.pv, Ex.ok_words, NX_RBt, NX_SKe, NX_LKt, Q_ret, Q_expr, Q_set, Q_sub, Q_if, Q_seq, Q_next, Q_ct, Q_bk, Q_retN, LK_nx, LK_ct, LK_bk, LK_rt, W_rng1, gName, SK_nx, SK_rt, SK_bk, SK_ct, RB_nx, RB_rt, W_var0, W_varS, W_c, W_op2, W_op1, W_nil, W_cons, W_fn, W_mt, W_call, W_tup, W_lst, W_dct0, W_pn, W_part, W_sl, W_isTy, W_tru, W_bl, W_and, W_or, W_not, W_eBl, W_if, W_eAnd, W_eOr, W_yes, O_ix_0, O_ix_1, O_ix_2, O_ix_3, O_ix_4, O_eq_ss, O_ne_ss, O_eq_ii, O_ne_ii, O_in_1, O_in_2, O_in_3, O_lt, O_le, O_gt, O_ge, O_add, O_sub, O_neg, O_int, O_intb, O_lent, O_min, O_max, O_tuplet, PV.bl.injEq, PV.int.injEq, PV.str.injEq, exists_eq_left', exists_eq_left, List.set_cons_zero, List.set_cons_succ, List.length_cons, List.length_nil, if_true, if_false, Bool.false_eq_true, decide_true, decide_false, ite_true, ite_false, O_m1_2, ty_str, tru]
    exact q0
  | read =>
    simp (decide := true) (implicitDefEqProofs := false) only [t_law_folded_3, t_law_folded_4, t_law_folded_5, t_law_folded_6, t_law_folded_7, t_law_folded_8, t_law_folded_9, t_law_folded_10, Ex.pv, Ex.ok_words, NX_RBt, NX_SKe, NX_LKt, Q_ret, Q_expr, Q_set, Q_sub, Q_if, Q_seq, Q_next, Q_ct, Q_bk, Q_retN, LK_nx, LK_ct, LK_bk, LK_rt, W_rng1, gName, SK_nx, SK_rt, SK_bk, SK_ct, RB_nx, RB_rt, W_var0, W_varS, W_c, W_op2, W_op1, W_nil, W_cons, W_fn, W_mt, W_call, W_tup, W_lst, W_dct0, W_pn, W_part, W_sl, W_isTy, W_tru, W_bl, W_and, W_or, W_not, W_eBl, W_if, W_eAnd, W_eOr, W_yes, O_ix_0, O_ix_1, O_ix_2, O_ix_3, O_ix_4, O_eq_ss, O_ne_ss, O_eq_ii, O_ne_ii, O_in_1, O_in_2, O_in_3, O_lt, O_le, O_gt, O_ge, O_add, O_sub, O_neg, O_int, O_intb, O_lent, O_min, O_max, O_tuplet, PV.bl.injEq, PV.int.injEq, PV.str.injEq, exists_eq_left', exists_eq_left, List.set_cons_zero, List.set_cons_succ, List.length_cons, List.length_nil, if_true, if_false, Bool.false_eq_true, decide_true, decide_false, ite_true, ite_false, O_m1_1, ty_str, tru]
    exact q0
  | tell a =>
    simp (decide := true) (implicitDefEqProofs := false) only [t_law_folded_3, t_law_folded_4, t_law_folded_5, t_law_folded_6, t_law_folded_7, t_law_folded_8, t_law_folded_9, t_law_folded_10, Ex.pv, Ex.ok_words, NX_RBt, NX_SKe, NX_LKt, Q_ret, Q_expr, Q_set, Q_sub, Q_if, Q_seq, Q_next, Q_ct, Q_bk, Q_retN, LK_nx, LK_ct, LK_bk, LK_rt, W_rng1, gName, SK_nx, SK_rt, SK_bk, SK_ct, RB_nx, RB_rt, W_var0, W_varS, W_c, W_op2, W_op1, W_nil, W_cons, W_fn, W_mt, W_call, W_tup, W_lst, W_dct0, W_pn, W_part, W_sl, W_isTy, W_tru, W_bl, W_and, W_or, W_not, W_eBl, W_if, W_eAnd, W_eOr, W_yes, O_ix_0, O_ix_1, O_ix_2, O_ix_3, O_ix_4, O_eq_ss, O_ne_ss, O_eq_ii, O_ne_ii, O_in_1, O_in_2, O_in_3, O_lt, O_le, O_gt, O_ge, O_add, O_sub, O_neg, O_int, O_intb, O_lent, O_min, O_max, O_tuplet, PV.bl.injEq, PV.int.injEq, PV.str.injEq, exists_eq_left', exists_eq_left, List.set_cons_zero, List.set_cons_succ, List.length_cons, List.length_nil, if_true, if_false, Bool.false_eq_true, decide_true, decide_false, ite_true, ite_false, O_m1_2, ty_pv, O_hd, tru]
    exact q0
  | _ =>
    simp (decide := true) (implicitDefEqProofs := false) only [t_law_folded_3, t_law_folded_4, t_law_folded_5, t_law_folded_6, t_law_folded_7, t_law_folded_8, t_law_folded_9, t_law_folded_10, Ex.pv, Ex.ok_words, NX_RBt, NX_SKe, NX_LKt, Q_ret, Q_expr, Q_set, Q_sub, Q_if, Q_seq, Q_next, Q_ct, Q_bk, Q_retN, LK_nx, LK_ct, LK_bk, LK_rt, W_rng1, gName, SK_nx, SK_rt, SK_bk, SK_ct, RB_nx, RB_rt, W_var0, W_varS, W_c, W_op2, W_op1, W_nil, W_cons, W_fn, W_mt, W_call, W_tup, W_lst, W_dct0, W_pn, W_part, W_sl, W_isTy, W_tru, W_bl, W_and, W_or, W_not, W_eBl, W_if, W_eAnd, W_eOr, W_yes, O_ix_0, O_ix_1, O_ix_2, O_ix_3, O_ix_4, O_eq_ss, O_ne_ss, O_eq_ii, O_ne_ii, O_in_1, O_in_2, O_in_3, O_lt, O_le, O_gt, O_ge, O_add, O_sub, O_neg, O_int, O_intb, O_lent, O_min, O_max, O_tuplet, PV.bl.injEq, PV.int.injEq, PV.str.injEq, exists_eq_left', exists_eq_left, List.set_cons_zero, List.set_cons_succ, List.length_cons, List.length_nil, if_true, if_false, Bool.false_eq_true, decide_true, decide_false, ite_true, ite_false, O_m1_3, ty_pv, O_hd, tru]
    exact q0
def LI (e : Ex) (g : G) (i : Nat) (σ : Sl) (g' : G) : Prop := ∃ (m : G) (a : Option PV), σ = [some e.pv, some (.ref g.length), a, none, none] ∧ g' = g ++ .lst ((.str e.hd :: e.fsub.ops).take i) :: m
theorem ops_at {e : Ex} {i : Nat} {x : PV} (h : e.ops[i]? = some x) : (∃ p, p ∈ e.parts ∧ x = p.pv ∧ e.fsub.ops[i]? = some p.folded.pv) ∨ (isTy "tuple" x [] = some false ∧ (∀ g, isTy "tuple" x g = some false) ∧ e.fsub.ops[i]? = some x) := by
  cases e <;> rcases i with _ | _ | _ | _ | i <;> simp only [Ex.ops, List.getElem?_cons_zero, List.getElem?_cons_succ, List.getElem?_nil, Option.some.injEq, reduceCtorEq] at h <;> subst h <;>
    first
    | exact .inr ⟨rfl, fun _ => rfl, rfl⟩
    | exact .inl ⟨_, by simp [Ex.parts], rfl, rfl⟩
    | exact .inl ⟨_, List.mem_cons_of_mem _ List.mem_cons_self, rfl, rfl⟩
    | exact .inl ⟨_, List.mem_cons_of_mem _ (List.mem_cons_of_mem _ List.mem_cons_self), rfl, rfl⟩
theorem ops_len (e : Ex) : e.fsub.ops.length = e.ops.length := by cases e <;> rfl
theorem w_l_folded : ∀ (n : Nat) (e : Ex) {g : G} {Q : PV → G → Prop}, Sm e → e.dep ≤ n → (∀ m, Q e.folded.pv (g ++ m)) → WC (CF (n + 2)) ("", "_law_folded") [e.pv] g Q
  | 0, e, g, Q, s, h, q => by have := e.dep_pos; omega
  | n + 1, e, g, Q, s, h, q => by
    refine wc_body (c_law_folded (n + 2) _ g) ?_
    rw [u_law_folded]
    simp (decide := true) (implicitDefEqProofs := false) only [t_law_folded_0, Ex.ok_words, NX_RBt, NX_SKe, NX_LKt, Q_ret, Q_expr, Q_set, Q_sub, Q_if, Q_seq, Q_next, Q_ct, Q_bk, Q_retN, LK_nx, LK_ct, LK_bk, LK_rt, W_rng1, gName, SK_nx, SK_rt, SK_bk, SK_ct, RB_nx, RB_rt, W_var0, W_varS, W_c, W_op2, W_op1, W_nil, W_cons, W_fn, W_mt, W_call, W_tup, W_lst, W_dct0, W_pn, W_part, W_sl, W_isTy, W_tru, W_bl, W_and, W_or, W_not, W_eBl, W_if, W_eAnd, W_eOr, W_yes, O_ix_0, O_ix_1, O_ix_2, O_ix_3, O_ix_4, O_eq_ss, O_ne_ss, O_eq_ii, O_ne_ii, O_in_1, O_in_2, O_in_3, O_lt, O_le, O_gt, O_ge, O_add, O_sub, O_neg, O_int, O_intb, O_lent, O_min, O_max, O_tuplet, PV.bl.injEq, PV.int.injEq, PV.str.injEq, exists_eq_left', exists_eq_left, List.set_cons_zero, List.set_cons_succ, List.length_cons, List.length_nil, if_true, if_false, Bool.false_eq_true, decide_true, decide_false, ite_true, ite_false]
    unfold t_law_folded_1
    rw [Q_seq]
    generalize hσ : [some e.pv, some (PV.ref (List.length g)), none, none, none] = σ0
    refine wp_for2 ?_
    subst hσ
    have e0 : bsOf e.pv (g ++ [GO.lst []]) = some (.tup (.str e.hd :: e.ops)) := by rw [Ex.pv_eq]; rfl
    simp (decide := true) (implicitDefEqProofs := false) only [W_bs, Ex.ok_words, NX_RBt, NX_SKe, NX_LKt, Q_ret, Q_expr, Q_set, Q_sub, Q_if, Q_seq, Q_next, Q_ct, Q_bk, Q_retN, LK_nx, LK_ct, LK_bk, LK_rt, W_rng1, gName, SK_nx, SK_rt, SK_bk, SK_ct, RB_nx, RB_rt, W_var0, W_varS, W_c, W_op2, W_op1, W_nil, W_cons, W_fn, W_mt, W_call, W_tup, W_lst, W_dct0, W_pn, W_part, W_sl, W_isTy, W_tru, W_bl, W_and, W_or, W_not, W_eBl, W_if, W_eAnd, W_eOr, W_yes, O_ix_0, O_ix_1, O_ix_2, O_ix_3, O_ix_4, O_eq_ss, O_ne_ss, O_eq_ii, O_ne_ii, O_in_1, O_in_2, O_in_3, O_lt, O_le, O_gt, O_ge, O_add, O_sub, O_neg, O_int, O_intb, O_lent, O_min, O_max, O_tuplet, PV.bl.injEq, PV.int.injEq, PV.str.injEq, exists_eq_left', exists_eq_left, List.set_cons_zero, List.set_cons_succ, List.length_cons, List.length_nil, if_true, if_false, Bool.false_eq_true, decide_true, decide_false, ite_true, ite_false, e0]
    have o4 : e.ops.length ≤ 4 := by cases e <;> simp [Ex.ops]
    refine loop_run (L := .str e.hd :: e.ops) (LI e g) ⟨[], none, rfl, by simp⟩ (fun _ _ g' _ => items_tup _ g') ?_ ?_
    · rintro i x σ g' hx ⟨m, la, rfl, rfl⟩
      refine ⟨_, _, rfl, ?_⟩
      have at_ : ∀ m : G, (g ++ GO.lst ((.str e.hd :: e.fsub.ops).take i) :: m)[g.length]? = some (.lst ((.str e.hd :: e.fsub.ops).take i)) := fun m => by simp
      have blen : ((PV.str e.hd :: e.fsub.ops).take i).length < big := by
        rw [List.length_take, List.length_cons, ops_len]
        unfold big; omega
      cases i with
      | zero =>
        cases hx
        simp (decide := true) (implicitDefEqProofs := false) only [Ex.ok_words, NX_RBt, NX_SKe, NX_LKt, Q_ret, Q_expr, Q_set, Q_sub, Q_if, Q_seq, Q_next, Q_ct, Q_bk, Q_retN, LK_nx, LK_ct, LK_bk, LK_rt, W_rng1, gName, SK_nx, SK_rt, SK_bk, SK_ct, RB_nx, RB_rt, W_var0, W_varS, W_c, W_op2, W_op1, W_nil, W_cons, W_fn, W_mt, W_call, W_tup, W_lst, W_dct0, W_pn, W_part, W_sl, W_isTy, W_tru, W_bl, W_and, W_or, W_not, W_eBl, W_if, W_eAnd, W_eOr, W_yes, O_ix_0, O_ix_1, O_ix_2, O_ix_3, O_ix_4, O_eq_ss, O_ne_ss, O_eq_ii, O_ne_ii, O_in_1, O_in_2, O_in_3, O_lt, O_le, O_gt, O_ge, O_add, O_sub, O_neg, O_int, O_intb, O_lent, O_min, O_max, O_tuplet, PV.bl.injEq, PV.int.injEq, PV.str.injEq, exists_eq_left', exists_eq_left, List.set_cons_zero, List.set_cons_succ, List.length_cons, List.length_nil, if_true, if_false, Bool.false_eq_true, decide_true, decide_false, ite_true, ite_false, ty_str, tru, isL_ok _ (at_ m), O_app _ _ (at_ m) blen]
        exact ⟨m, _, rfl, by simp⟩
      | succ i =>
        rw [List.getElem?_cons_succ] at hx
        have nx : (PV.str e.hd :: e.fsub.ops).take (i + 1 + 1) = (PV.str e.hd :: e.fsub.ops).take (i + 1) ++ (e.fsub.ops[i]?).toList := by
          rw [List.take_succ, List.getElem?_cons_succ]
        rcases ops_at hx with ⟨p, hp, rfl, h2⟩ | ⟨-, h1, h2⟩
        · have hd := Ex.dep_part hp
          simp (decide := true) (implicitDefEqProofs := false) only [Ex.ok_words, NX_RBt, NX_SKe, NX_LKt, Q_ret, Q_expr, Q_set, Q_sub, Q_if, Q_seq, Q_next, Q_ct, Q_bk, Q_retN, LK_nx, LK_ct, LK_bk, LK_rt, W_rng1, gName, SK_nx, SK_rt, SK_bk, SK_ct, RB_nx, RB_rt, W_var0, W_varS, W_c, W_op2, W_op1, W_nil, W_cons, W_fn, W_mt, W_call, W_tup, W_lst, W_dct0, W_pn, W_part, W_sl, W_isTy, W_tru, W_bl, W_and, W_or, W_not, W_eBl, W_if, W_eAnd, W_eOr, W_yes, O_ix_0, O_ix_1, O_ix_2, O_ix_3, O_ix_4, O_eq_ss, O_ne_ss, O_eq_ii, O_ne_ii, O_in_1, O_in_2, O_in_3, O_lt, O_le, O_gt, O_ge, O_add, O_sub, O_neg, O_int, O_intb, O_lent, O_min, O_max, O_tuplet, PV.bl.injEq, PV.int.injEq, PV.str.injEq, exists_eq_left', exists_eq_left, List.set_cons_zero, List.set_cons_succ, List.length_cons, List.length_nil, if_true, if_false, Bool.false_eq_true, decide_true, decide_false, ite_true, ite_false, ty_pv, tru, isL_ok _ (at_ m)]
          refine w_l_folded n p (s.part hp) (by omega) fun m2 => ?_
          have e1 : (g ++ GO.lst ((.str e.hd :: e.fsub.ops).take (i + 1)) :: m) ++ m2 = g ++ GO.lst ((.str e.hd :: e.fsub.ops).take (i + 1)) :: (m ++ m2) := by simp
          rw [e1, O_app _ _ (at_ (m ++ m2)) blen]
          try simp (decide := true) (implicitDefEqProofs := false) only [Ex.ok_words, NX_RBt, NX_SKe, NX_LKt, Q_ret, Q_expr, Q_set, Q_sub, Q_if, Q_seq, Q_next, Q_ct, Q_bk, Q_retN, LK_nx, LK_ct, LK_bk, LK_rt, W_rng1, gName, SK_nx, SK_rt, SK_bk, SK_ct, RB_nx, RB_rt, W_var0, W_varS, W_c, W_op2, W_op1, W_nil, W_cons, W_fn, W_mt, W_call, W_tup, W_lst, W_dct0, W_pn, W_part, W_sl, W_isTy, W_tru, W_bl, W_and, W_or, W_not, W_eBl, W_if, W_eAnd, W_eOr, W_yes, O_ix_0, O_ix_1, O_ix_2, O_ix_3, O_ix_4, O_eq_ss, O_ne_ss, O_eq_ii, O_ne_ii, O_in_1, O_in_2, O_in_3, O_lt, O_le, O_gt, O_ge, O_add, O_sub, O_neg, O_int, O_intb, O_lent, O_min, O_max, O_tuplet, PV.bl.injEq, PV.int.injEq, PV.str.injEq, exists_eq_left', exists_eq_left, List.set_cons_zero, List.set_cons_succ, List.length_cons, List.length_nil, if_true, if_false, Bool.false_eq_true, decide_true, decide_false, ite_true, ite_false]
          refine ⟨m ++ m2, _, rfl, ?_⟩
          rw [nx, h2]
          simp
        · simp (decide := true) (implicitDefEqProofs := false) only [Ex.ok_words, NX_RBt, NX_SKe, NX_LKt, Q_ret, Q_expr, Q_set, Q_sub, Q_if, Q_seq, Q_next, Q_ct, Q_bk, Q_retN, LK_nx, LK_ct, LK_bk, LK_rt, W_rng1, gName, SK_nx, SK_rt, SK_bk, SK_ct, RB_nx, RB_rt, W_var0, W_varS, W_c, W_op2, W_op1, W_nil, W_cons, W_fn, W_mt, W_call, W_tup, W_lst, W_dct0, W_pn, W_part, W_sl, W_isTy, W_tru, W_bl, W_and, W_or, W_not, W_eBl, W_if, W_eAnd, W_eOr, W_yes, O_ix_0, O_ix_1, O_ix_2, O_ix_3, O_ix_4, O_eq_ss, O_ne_ss, O_eq_ii, O_ne_ii, O_in_1, O_in_2, O_in_3, O_lt, O_le, O_gt, O_ge, O_add, O_sub, O_neg, O_int, O_intb, O_lent, O_min, O_max, O_tuplet, PV.bl.injEq, PV.int.injEq, PV.str.injEq, exists_eq_left', exists_eq_left, List.set_cons_zero, List.set_cons_succ, List.length_cons, List.length_nil, if_true, if_false, Bool.false_eq_true, decide_true, decide_false, ite_true, ite_false, h1, tru, isL_ok _ (at_ m), O_app _ _ (at_ m) blen]
          refine ⟨m, _, rfl, ?_⟩
          rw [nx, h2]
          simp
    · rintro σ g' ⟨m, la, rfl, rfl⟩
      have tk : (PV.str e.hd :: e.fsub.ops).take (PV.str e.hd :: e.ops).length = .str e.hd :: e.fsub.ops := by
        rw [List.length_cons, ← ops_len, ← List.length_cons (a := PV.str e.hd), List.take_length]
      rw [tk, ← Ex.fsub_hd]
      have at_ : (g ++ GO.lst (.str e.fsub.hd :: e.fsub.ops) :: m)[g.length]? = some (.lst (.str e.fsub.hd :: e.fsub.ops)) := by simp
      simp (decide := true) (implicitDefEqProofs := false) only [t_law_folded_2, Ex.ok_words, NX_RBt, NX_SKe, NX_LKt, Q_ret, Q_expr, Q_set, Q_sub, Q_if, Q_seq, Q_next, Q_ct, Q_bk, Q_retN, LK_nx, LK_ct, LK_bk, LK_rt, W_rng1, gName, SK_nx, SK_rt, SK_bk, SK_ct, RB_nx, RB_rt, W_var0, W_varS, W_c, W_op2, W_op1, W_nil, W_cons, W_fn, W_mt, W_call, W_tup, W_lst, W_dct0, W_pn, W_part, W_sl, W_isTy, W_tru, W_bl, W_and, W_or, W_not, W_eBl, W_if, W_eAnd, W_eOr, W_yes, O_ix_0, O_ix_1, O_ix_2, O_ix_3, O_ix_4, O_eq_ss, O_ne_ss, O_eq_ii, O_ne_ii, O_in_1, O_in_2, O_in_3, O_lt, O_le, O_gt, O_ge, O_add, O_sub, O_neg, O_int, O_intb, O_lent, O_min, O_max, O_tuplet, PV.bl.injEq, PV.int.injEq, PV.str.injEq, exists_eq_left', exists_eq_left, List.set_cons_zero, List.set_cons_succ, List.length_cons, List.length_nil, if_true, if_false, Bool.false_eq_true, decide_true, decide_false, ite_true, ite_false, O_tuplel _ _ (seq_l _ at_)]
      rw [← Ex.pv_eq]
      have sf : Sm e.fsub := ⟨Ex.ok_fsub s.ok, Nat.le_trans e.fsub_dep s.dp, Int.le_trans e.count_fsub s.ct⟩
      refine w_l_fold1 (n + 1) e.fsub sf (Nat.le_trans e.fsub_dep h) fun m2 => ?_
      have := q (GO.lst (.str e.fsub.hd :: e.fsub.ops) :: (m ++ m2))
      rw [Ex.folded_eq] at this
      simpa using this
end K19
end

section
set_option maxRecDepth 100000
set_option maxHeartbeats 4000000
/-! expressions of known parts mostly -/
namespace K19
open PySem Vm

theorem w_pickK (n : Nat) {t : Nat} {g0 g : G} {k : Nat} {m : Int} {Q : PV → G → Prop} (J : KJ t g0 k g) (hk : k < 100000000000) (hm : 0 < m)
    (q : ∀ v g', 0 ≤ v → v < m → KJ t g0 (k + 1) g' → Fr [t] g g' → Q (.int v) g') : WC (CF (n + 1)) ("", "_law_pick") [.ref t, .int m] g Q :=
  w_pick n J.tp hk hm fun v g' h0 h1 T F hl => q v g' h0 h1 ⟨T, J.fr.trans F, J.lt⟩ F
theorem O_ixe {g : G} {Q : PV → G → Prop} {r : Nat} {a b : PV} {c : Bool} (h : g[r]? = some (.lst [a, b])) : O (opIx (.ref r) (.int (if c = true then 1 else 0)) g) Q = if c = true then Q b g else Q a g := by
  cases c
  · exact O_ix_l g Q h (atI_ok (by decide) rfl)
  · exact O_ix_l g Q h (atI_ok (by decide) rfl)
theorem known_5 (n : Nat) {t : Nat} {g0 g : G} {k : Nat} {i : Int} {w : Str} {x2 x4 x7 : Option PV} {Q : PV → G → Prop} (J : KJ t g0 k g) (hk : k + 10 < 100000000000)
    (q : ∀ v k' g' D, 0 ≤ v → v < 4 → k ≤ k' → k' ≤ k + 1 → KJ t g0 k' g' → D ≠ t → g'[D]? = some (.dk [(.inr "let", .tup [.str "x"]), (.inr "look", .tup [.str "a", .str "x"]), (.inr "way", .tup [.str "w", .str "x"]), (.inr "anew", .tup [.str "w", .int v])]) → WS (t_law_a_known_6 (CF (n + 1))) [some (.ref t), some (.int i), x2, some (.str w), x4, some (.ref D), none, x7, none] g' (RB Q)) :
    WS (t_law_a_known_5 (CF (n + 1))) [some (.ref t), some (.int i), x2, some (.str w), x4, none, none, x7, none] g (RB Q) := by
  simp (decide := true) (implicitDefEqProofs := false) only [t_law_a_known_5, Ex.ok_words, NX_RBt, NX_SKe, NX_LKt, Q_ret, Q_expr, Q_set, Q_sub, Q_if, Q_seq, Q_next, Q_ct, Q_bk, Q_retN, LK_nx, LK_ct, LK_bk, LK_rt, W_rng1, gName, SK_nx, SK_rt, SK_bk, SK_ct, RB_nx, RB_rt, W_var0, W_varS, W_c, W_op2, W_op1, W_nil, W_cons, W_fn, W_mt, W_call, W_tup, W_lst, W_dct0, W_pn, W_part, W_sl, W_isTy, W_tru, W_bl, W_and, W_or, W_not, W_eBl, W_if, W_eAnd, W_eOr, W_yes, O_ix_0, O_ix_1, O_ix_2, O_ix_3, O_ix_4, O_eq_ss, O_ne_ss, O_eq_ii, O_ne_ii, O_in_1, O_in_2, O_in_3, O_lt, O_le, O_gt, O_ge, O_add, O_sub, O_neg, O_int, O_intb, O_lent, O_min, O_max, O_tuplet, PV.bl.injEq, PV.int.injEq, PV.str.injEq, exists_eq_left', exists_eq_left, List.set_cons_zero, List.set_cons_succ, List.length_cons, List.length_nil, if_true, if_false, Bool.false_eq_true, decide_true, decide_false, ite_true, ite_false, W_dct, W_pcons, W_pnil, keyOf_str]
  refine w_pickK n (J.app _) (by omega) (by decide) fun v g1 a1 b1 J1 F1 => ?_
  have nt : g.length ≠ t := by have := J.lt; have := J.fr.le; omega
  have at_ := F1.get (new_at (g := g) (o := .dk [])) (by simp; exact nt)
  simp (decide := true) (implicitDefEqProofs := false) only [at_, Ex.ok_words, NX_RBt, NX_SKe, NX_LKt, Q_ret, Q_expr, Q_set, Q_sub, Q_if, Q_seq, Q_next, Q_ct, Q_bk, Q_retN, LK_nx, LK_ct, LK_bk, LK_rt, W_rng1, gName, SK_nx, SK_rt, SK_bk, SK_ct, RB_nx, RB_rt, W_var0, W_varS, W_c, W_op2, W_op1, W_nil, W_cons, W_fn, W_mt, W_call, W_tup, W_lst, W_dct0, W_pn, W_part, W_sl, W_isTy, W_tru, W_bl, W_and, W_or, W_not, W_eBl, W_if, W_eAnd, W_eOr, W_yes, O_ix_0, O_ix_1, O_ix_2, O_ix_3, O_ix_4, O_eq_ss, O_ne_ss, O_eq_ii, O_ne_ii, O_in_1, O_in_2, O_in_3, O_lt, O_le, O_gt, O_ge, O_add, O_sub, O_neg, O_int, O_intb, O_lent, O_min, O_max, O_tuplet, PV.bl.injEq, PV.int.injEq, PV.str.injEq, exists_eq_left', exists_eq_left, List.set_cons_zero, List.set_cons_succ, List.length_cons, List.length_nil, if_true, if_false, Bool.false_eq_true, decide_true, decide_false, ite_true, ite_false]
  have em : mergeD [] ([(.inr "let", .tup [.str "x"]), (.inr "look", .tup [.str "a", .str "x"]), (.inr "way", .tup [.str "w", .str "x"]), (.inr "anew", .tup [.str "w", .int v])] : List (L2.Key × PV)) = [(.inr "let", .tup [.str "x"]), (.inr "look", .tup [.str "a", .str "x"]), (.inr "way", .tup [.str "w", .str "x"]), (.inr "anew", .tup [.str "w", .int v])] := by
    simp (decide := true) [mergeD, putD]
  rw [em]
  have hl := (List.getElem?_eq_some_iff.mp at_).1
  have F2 : Fr [g.length] g1 (g1.set g.length (.dk [(.inr "let", .tup [.str "x"]), (.inr "look", .tup [.str "a", .str "x"]), (.inr "way", .tup [.str "w", .str "x"]), (.inr "anew", .tup [.str "w", .int v])])) := Fr.set _ (by simp)
  refine q v (k + 1) _ g.length a1 b1 (by omega) (by omega) ⟨J1.tp.keep F2 ?_, J1.fr.set_new _ J.fr.le, J.lt⟩ nt (List.getElem?_set_self hl)
  intro d o hd ho q
  have e := List.mem_singleton.mp q
  subst e
  rcases ho with h | ⟨m, rfl, hm⟩
  · exact nt h
  · rw [at_] at hd
    cases hd
theorem known_6 (n : Nat) {t : Nat} {g0 g : G} {k d m D : Nat} {i v mi : Int} {w : Str} {x2 x7 : Option PV} {Q : PV → G → Prop} (J : KJ t g0 k g) (hk : k + 40 * 4 ^ d < 100000000000) (hm : m ≤ 3) (hmi : mi = (m : Int)) (h0 : 0 ≤ v) (h1 : v < 4) (hDt : D ≠ t) (hD : g[D]? = some (.dk [(.inr "let", .tup [.str "x"]), (.inr "look", .tup [.str "a", .str "x"]), (.inr "way", .tup [.str "w", .str "x"]), (.inr "anew", .tup [.str "w", .int v])]))
    (hw : (w ∈ (["plus", "less", "let", "look", "way"] : List Str) ∧ m = 2) ∨ (w = "if" ∧ m = 3) ∨ (w ∈ (["tell", "anew"] : List Str) ∧ m = 1))
    (ih : ∀ {g : G} {k' : Nat} {Q : PV → G → Prop}, k ≤ k' → k' ≤ k + 30 * 4 ^ d → KJ t g k' g → (∀ e k2 g2, (∀ body, Grown false body d e) → k' ≤ k2 → k2 ≤ k' + 10 * 4 ^ d → KJ t g k2 g2 → Q e.pv g2) → WC (CF (n + 1)) ("", "_law_a_known") [.ref t, .int (i - 1)] g Q)
    (q : ∀ e k' g', (∀ body, Grown false body (d + 1) e) → k ≤ k' → k' ≤ k + 30 * 4 ^ d → KJ t g0 k' g' → Q e.pv g') :
    WS (t_law_a_known_6 (CF (n + 1))) [some (.ref t), some (.int i), x2, some (.str w), some (.int mi), some (.ref D), none, x7, none] g (RB Q) := by
  subst hmi
  simp (decide := true) (implicitDefEqProofs := false) only [t_law_a_known_6, Ex.ok_words, NX_RBt, NX_SKe, NX_LKt, Q_ret, Q_expr, Q_set, Q_sub, Q_if, Q_seq, Q_next, Q_ct, Q_bk, Q_retN, LK_nx, LK_ct, LK_bk, LK_rt, W_rng1, gName, SK_nx, SK_rt, SK_bk, SK_ct, RB_nx, RB_rt, W_var0, W_varS, W_c, W_op2, W_op1, W_nil, W_cons, W_fn, W_mt, W_call, W_tup, W_lst, W_dct0, W_pn, W_part, W_sl, W_isTy, W_tru, W_bl, W_and, W_or, W_not, W_eBl, W_if, W_eAnd, W_eOr, W_yes, O_ix_0, O_ix_1, O_ix_2, O_ix_3, O_ix_4, O_eq_ss, O_ne_ss, O_eq_ii, O_ne_ii, O_in_1, O_in_2, O_in_3, O_lt, O_le, O_gt, O_ge, O_add, O_sub, O_neg, O_int, O_intb, O_lent, O_min, O_max, O_tuplet, PV.bl.injEq, PV.int.injEq, PV.str.injEq, exists_eq_left', exists_eq_left, List.set_cons_zero, List.set_cons_succ, List.length_cons, List.length_nil, if_true, if_false, Bool.false_eq_true, decide_true, decide_false, ite_true, ite_false]
  generalize hσ : [some (PV.ref t), some (PV.int i), x2, some (PV.str w), some (PV.int m), some (PV.ref D), none, x7, none] = σ0
  have hmc : m * (10 * 4 ^ d) ≤ 30 * 4 ^ d := by
    have := Nat.mul_le_mul_right (10 * 4 ^ d) hm
    omega
  refine wp_partsK (t := t) (g0 := g) (k := k) (fun e => ∀ body, Grown false body d e) (10 * 4 ^ d) m (by omega) ?_ ?_ ?_
  · subst hσ
    simp (decide := true) (implicitDefEqProofs := false) only [Ex.ok_words, NX_RBt, NX_SKe, NX_LKt, Q_ret, Q_expr, Q_set, Q_sub, Q_if, Q_seq, Q_next, Q_ct, Q_bk, Q_retN, LK_nx, LK_ct, LK_bk, LK_rt, W_rng1, gName, SK_nx, SK_rt, SK_bk, SK_ct, RB_nx, RB_rt, W_var0, W_varS, W_c, W_op2, W_op1, W_nil, W_cons, W_fn, W_mt, W_call, W_tup, W_lst, W_dct0, W_pn, W_part, W_sl, W_isTy, W_tru, W_bl, W_and, W_or, W_not, W_eBl, W_if, W_eAnd, W_eOr, W_yes, O_ix_0, O_ix_1, O_ix_2, O_ix_3, O_ix_4, O_eq_ss, O_ne_ss, O_eq_ii, O_ne_ii, O_in_1, O_in_2, O_in_3, O_lt, O_le, O_gt, O_ge, O_add, O_sub, O_neg, O_int, O_intb, O_lent, O_min, O_max, O_tuplet, PV.bl.injEq, PV.int.injEq, PV.str.injEq, exists_eq_left', exists_eq_left, List.set_cons_zero, List.set_cons_succ, List.length_cons, List.length_nil, if_true, if_false, Bool.false_eq_true, decide_true, decide_false, ite_true, ite_false]
    exact ⟨by unfold in62; simp; omega, by congr 1, J.here⟩
  · intro g' k' Q' x h1 h2 J' hq
    subst hσ
    simp (decide := true) (implicitDefEqProofs := false) only [wipeP, Ex.ok_words, NX_RBt, NX_SKe, NX_LKt, Q_ret, Q_expr, Q_set, Q_sub, Q_if, Q_seq, Q_next, Q_ct, Q_bk, Q_retN, LK_nx, LK_ct, LK_bk, LK_rt, W_rng1, gName, SK_nx, SK_rt, SK_bk, SK_ct, RB_nx, RB_rt, W_var0, W_varS, W_c, W_op2, W_op1, W_nil, W_cons, W_fn, W_mt, W_call, W_tup, W_lst, W_dct0, W_pn, W_part, W_sl, W_isTy, W_tru, W_bl, W_and, W_or, W_not, W_eBl, W_if, W_eAnd, W_eOr, W_yes, O_ix_0, O_ix_1, O_ix_2, O_ix_3, O_ix_4, O_eq_ss, O_ne_ss, O_eq_ii, O_ne_ii, O_in_1, O_in_2, O_in_3, O_lt, O_le, O_gt, O_ge, O_add, O_sub, O_neg, O_int, O_intb, O_lent, O_min, O_max, O_tuplet, PV.bl.injEq, PV.int.injEq, PV.str.injEq, exists_eq_left', exists_eq_left, List.set_cons_zero, List.set_cons_succ, List.length_cons, List.length_nil, if_true, if_false, Bool.false_eq_true, decide_true, decide_false, ite_true, ite_false]
    exact ih h1 (by omega) J' hq
  · intro es D2 k' g' h1' h2 h3 h4 h5 J'
    subst hσ
    have hD' : g'[D]? = _ := J'.fr.get hD (by simp; exact hDt)
    have two : es.length = 2 → ∃ a b, es = [a, b] := fun h => match es, h with | [a, b], _ => ⟨a, b, rfl⟩
    have one : es.length = 1 → ∃ a, es = [a] := fun h => match es, h with | [a], _ => ⟨a, rfl⟩
    have three : es.length = 3 → ∃ a b c, es = [a, b, c] := fun h => match es, h with | [a, b, c], _ => ⟨a, b, c, rfl⟩
    have hx : nameOk "x" = true := by decide +kernel
    have ha_ : nameOk "a" = true := by decide +kernel
    have hw_ : nameOk "w" = true := by decide +kernel
    have fin : ∀ {e : Ex}, (∀ body, Grown false body (d + 1) e) → Q e.pv g' := fun h => q _ k' _ h h3 (by omega) (J.then J')
    simp only [List.mem_cons, List.not_mem_nil, or_false] at hw
    rcases hw with ⟨hw, rfl⟩ | ⟨rfl, rfl⟩ | ⟨hw, rfl⟩
    · obtain ⟨a, b, rfl⟩ := two h1'
      have ha := h2 a (by simp)
      have hb := h2 b (by simp)
      have fin2 : ∀ {e : Ex}, (∀ body, e.ok body false = true) → e.dep = 1 + max a.dep b.dep → Q e.pv g' := fun h1 h2 => fin fun body => ⟨h1 body, by have := (ha 0).dp; have := (hb 0).dp; omega⟩
      rcases hw with rfl | rfl | rfl | rfl | rfl <;> simp (decide := true) (implicitDefEqProofs := false) only [t_law_a_known_7, Ex.ok_words, NX_RBt, NX_SKe, NX_LKt, Q_ret, Q_expr, Q_set, Q_sub, Q_if, Q_seq, Q_next, Q_ct, Q_bk, Q_retN, LK_nx, LK_ct, LK_bk, LK_rt, W_rng1, gName, SK_nx, SK_rt, SK_bk, SK_ct, RB_nx, RB_rt, W_var0, W_varS, W_c, W_op2, W_op1, W_nil, W_cons, W_fn, W_mt, W_call, W_tup, W_lst, W_dct0, W_pn, W_part, W_sl, W_isTy, W_tru, W_bl, W_and, W_or, W_not, W_eBl, W_if, W_eAnd, W_eOr, W_yes, O_ix_0, O_ix_1, O_ix_2, O_ix_3, O_ix_4, O_eq_ss, O_ne_ss, O_eq_ii, O_ne_ii, O_in_1, O_in_2, O_in_3, O_lt, O_le, O_gt, O_ge, O_add, O_sub, O_neg, O_int, O_intb, O_lent, O_min, O_max, O_tuplet, PV.bl.injEq, PV.int.injEq, PV.str.injEq, exists_eq_left', exists_eq_left, List.set_cons_zero, List.set_cons_succ, List.length_cons, List.length_nil, if_true, if_false, Bool.false_eq_true, decide_true, decide_false, ite_true, ite_false, O_addt, List.cons_append, List.nil_append, O_tuplel _ _ (seq_l _ h5), dk_isD hD', O_get hD', look_cons, look_nil, Sum.inr.injEq, Option.getD_some, Option.getD_none, List.map_cons, List.map_nil]
      · exact fin2 (e := .plus a b) (fun body => by simp [Ex.ok, (ha body).ok, (hb body).ok]) rfl
      · exact fin2 (e := .less a b) (fun body => by simp [Ex.ok, (ha body).ok, (hb body).ok]) rfl
      · exact fin2 (e := .lett "x" a b) (fun body => by simp [Ex.ok, (ha body).ok, (hb body).ok, hx]) rfl
      · exact fin2 (e := .look "a" "x" a b) (fun body => by simp [Ex.ok, (ha body).ok, (hb body).ok, hx, ha_]) rfl
      · exact fin2 (e := .way "w" "x" a b) (fun body => by simp (decide := true) [Ex.ok, (ha body).ok, (hb body).ok, hx, hw_]) rfl
    · obtain ⟨a, b, c, rfl⟩ := three h1'
      have ha := h2 a (by simp)
      have hb := h2 b (by simp)
      have hc := h2 c (by simp)
      simp (decide := true) (implicitDefEqProofs := false) only [t_law_a_known_7, Ex.ok_words, NX_RBt, NX_SKe, NX_LKt, Q_ret, Q_expr, Q_set, Q_sub, Q_if, Q_seq, Q_next, Q_ct, Q_bk, Q_retN, LK_nx, LK_ct, LK_bk, LK_rt, W_rng1, gName, SK_nx, SK_rt, SK_bk, SK_ct, RB_nx, RB_rt, W_var0, W_varS, W_c, W_op2, W_op1, W_nil, W_cons, W_fn, W_mt, W_call, W_tup, W_lst, W_dct0, W_pn, W_part, W_sl, W_isTy, W_tru, W_bl, W_and, W_or, W_not, W_eBl, W_if, W_eAnd, W_eOr, W_yes, O_ix_0, O_ix_1, O_ix_2, O_ix_3, O_ix_4, O_eq_ss, O_ne_ss, O_eq_ii, O_ne_ii, O_in_1, O_in_2, O_in_3, O_lt, O_le, O_gt, O_ge, O_add, O_sub, O_neg, O_int, O_intb, O_lent, O_min, O_max, O_tuplet, PV.bl.injEq, PV.int.injEq, PV.str.injEq, exists_eq_left', exists_eq_left, List.set_cons_zero, List.set_cons_succ, List.length_cons, List.length_nil, if_true, if_false, Bool.false_eq_true, decide_true, decide_false, ite_true, ite_false, O_addt, List.cons_append, List.nil_append, O_tuplel _ _ (seq_l _ h5), dk_isD hD', O_get hD', look_cons, look_nil, Sum.inr.injEq, Option.getD_some, Option.getD_none, List.map_cons, List.map_nil]
      exact fin (e := .cond a b c) (fun body => ⟨by simp [Ex.ok, (ha body).ok, (hb body).ok, (hc body).ok], by have := (ha 0).dp; have := (hb 0).dp; have := (hc 0).dp; simp only [Ex.dep]; omega⟩)
    · obtain ⟨a, rfl⟩ := one h1'
      have ha := h2 a (by simp)
      have fin2 : ∀ {e : Ex}, (∀ body, e.ok body false = true) → e.dep = 1 + a.dep → Q e.pv g' := fun h1 h2 => fin fun body => ⟨h1 body, by have := (ha 0).dp; omega⟩
      rcases hw with rfl | rfl <;> simp (decide := true) (implicitDefEqProofs := false) only [t_law_a_known_7, Ex.ok_words, NX_RBt, NX_SKe, NX_LKt, Q_ret, Q_expr, Q_set, Q_sub, Q_if, Q_seq, Q_next, Q_ct, Q_bk, Q_retN, LK_nx, LK_ct, LK_bk, LK_rt, W_rng1, gName, SK_nx, SK_rt, SK_bk, SK_ct, RB_nx, RB_rt, W_var0, W_varS, W_c, W_op2, W_op1, W_nil, W_cons, W_fn, W_mt, W_call, W_tup, W_lst, W_dct0, W_pn, W_part, W_sl, W_isTy, W_tru, W_bl, W_and, W_or, W_not, W_eBl, W_if, W_eAnd, W_eOr, W_yes, O_ix_0, O_ix_1, O_ix_2, O_ix_3, O_ix_4, O_eq_ss, O_ne_ss, O_eq_ii, O_ne_ii, O_in_1, O_in_2, O_in_3, O_lt, O_le, O_gt, O_ge, O_add, O_sub, O_neg, O_int, O_intb, O_lent, O_min, O_max, O_tuplet, PV.bl.injEq, PV.int.injEq, PV.str.injEq, exists_eq_left', exists_eq_left, List.set_cons_zero, List.set_cons_succ, List.length_cons, List.length_nil, if_true, if_false, Bool.false_eq_true, decide_true, decide_false, ite_true, ite_false, O_addt, List.cons_append, List.nil_append, O_tuplel _ _ (seq_l _ h5), dk_isD hD', O_get hD', look_cons, look_nil, Sum.inr.injEq, Option.getD_some, Option.getD_none, List.map_cons, List.map_nil]
      · exact fin2 (e := .tell a) (fun body => by simp [Ex.ok, (ha body).ok]) rfl
      · exact fin2 (e := .anew "w" v a) (fun body => by simp (decide := true) [Ex.ok, (ha body).ok, hw_, h0]; omega) rfl
theorem known_end (n : Nat) {t : Nat} {g0 g : G} {k d : Nat} {i : Int} {w : Str} {x2 x7 : Option PV} {Q : PV → G → Prop} (J : KJ t g0 k g) (hk : k + 40 * 4 ^ d + 10 < 100000000000) (hw : w ∈ (["plus", "less", "let", "look", "way", "if", "tell", "anew"] : List Str))
    (ih : ∀ {g : G} {k' : Nat} {Q : PV → G → Prop}, k ≤ k' → k' ≤ k + 30 * 4 ^ d + 1 → KJ t g k' g → (∀ e k2 g2, (∀ body, Grown false body d e) → k' ≤ k2 → k2 ≤ k' + 10 * 4 ^ d → KJ t g k2 g2 → Q e.pv g2) → WC (CF (n + 1)) ("", "_law_a_known") [.ref t, .int (i - 1)] g Q)
    (q : ∀ e k' g', (∀ body, Grown false body (d + 1) e) → k ≤ k' → k' ≤ k + 30 * 4 ^ d + 1 → KJ t g0 k' g' → Q e.pv g') :
    WS (t_law_a_known_4 (CF (n + 1))) [some (.ref t), some (.int i), x2, some (.str w), none, none, none, x7, none] g (RB Q) := by
  have go : ∀ (m : Nat) (mi : Int) (g : G), mi = (m : Int) → KJ t g0 k g → m ≤ 3 → ((w ∈ (["plus", "less", "let", "look", "way"] : List Str) ∧ m = 2) ∨ (w = "if" ∧ m = 3) ∨ (w ∈ (["tell", "anew"] : List Str) ∧ m = 1)) →
      WS (t_law_a_known_5 (CF (n + 1))) [some (.ref t), some (.int i), x2, some (.str w), some (.int mi), none, none, x7, none] g (RB Q) := by
    intro m mi g hmi J hm hwm
    refine known_5 n J (by omega) fun v k' g' D h0 h1 h2 h3 J' hDt hD => ?_
    refine known_6 n J' (by omega) hm hmi h0 h1 hDt hD hwm ?_ fun e k2 g2 p1 p2 p3 p4 => q e k2 g2 p1 (by omega) (by omega) p4
    intro g2 k2 Q2 p1 p2 J2 hq
    exact ih (by omega) (by omega) J2 hq
  simp only [List.mem_cons, List.not_mem_nil, or_false] at hw
  rcases hw with rfl | rfl | rfl | rfl | rfl | rfl | rfl | rfl <;> simp (decide := true) (implicitDefEqProofs := false) only [t_law_a_known_4, Ex.ok_words, NX_RBt, NX_SKe, NX_LKt, Q_ret, Q_expr, Q_set, Q_sub, Q_if, Q_seq, Q_next, Q_ct, Q_bk, Q_retN, LK_nx, LK_ct, LK_bk, LK_rt, W_rng1, gName, SK_nx, SK_rt, SK_bk, SK_ct, RB_nx, RB_rt, W_var0, W_varS, W_c, W_op2, W_op1, W_nil, W_cons, W_fn, W_mt, W_call, W_tup, W_lst, W_dct0, W_pn, W_part, W_sl, W_isTy, W_tru, W_bl, W_and, W_or, W_not, W_eBl, W_if, W_eAnd, W_eOr, W_yes, O_ix_0, O_ix_1, O_ix_2, O_ix_3, O_ix_4, O_eq_ss, O_ne_ss, O_eq_ii, O_ne_ii, O_in_1, O_in_2, O_in_3, O_lt, O_le, O_gt, O_ge, O_add, O_sub, O_neg, O_int, O_intb, O_lent, O_min, O_max, O_tuplet, PV.bl.injEq, PV.int.injEq, PV.str.injEq, exists_eq_left', exists_eq_left, List.set_cons_zero, List.set_cons_succ, List.length_cons, List.length_nil, if_true, if_false, Bool.false_eq_true, decide_true, decide_false, ite_true, ite_false, W_dct, W_pcons, W_pnil, keyOf_str, new_at, new_set, mergeD, putD, List.foldl_cons, List.foldl_nil, List.any_cons, List.any_nil, List.map_cons, List.map_nil, List.nil_append, List.cons_append, Bool.or_false, Bool.false_or, Sum.inr.injEq, look_cons, look_nil, Option.getD_some, Option.getD_none, dk_isD new_at, O_get new_at]
  · exact go 2 2 _ rfl (J.app _) (by decide) (by decide)
  · exact go 2 2 _ rfl (J.app _) (by decide) (by decide)
  · exact go 2 2 _ rfl (J.app _) (by decide) (by decide)
  · exact go 2 2 _ rfl (J.app _) (by decide) (by decide)
  · exact go 2 2 _ rfl (J.app _) (by decide) (by decide)
  · exact go 3 3 _ rfl (J.app _) (by decide) (by decide)
  · exact go 1 1 _ rfl (J.app _) (by decide) (by decide)
  · exact go 1 1 _ rfl (J.app _) (by decide) (by decide)
theorem w_a_known : ∀ (d n : Nat) {i : Int} {t : Nat} {g : G} {k : Nat} {Q : PV → G → Prop}, i = (d : Int) → 1 ≤ d → d ≤ n + 1 → KJ t g k g → k + 12 * 4 ^ d + 20 < 100000000000 →
    (∀ e k' g', (∀ body, Grown false body d e) → k ≤ k' → k' ≤ k + 10 * 4 ^ d → KJ t g k' g' → Q e.pv g') → WC (CF (n + 2)) ("", "_law_a_known") [.ref t, .int i] g Q
  | 0, n, i, t, g, k, Q, hi, h1, hn, J, hk, q => by omega
  | d + 1, n, i, t, g, k, Q, hi, h1, hn, J, hk, q => by
    have h4 : 10 * 4 ^ (d + 1) = 40 * 4 ^ d := by rw [Nat.pow_succ]; omega
    have h5 : 12 * 4 ^ (d + 1) = 48 * 4 ^ d := by rw [Nat.pow_succ]; omega
    have hp : 1 ≤ 4 ^ d := Nat.one_le_pow _ _ (by decide)
    rw [h4] at q
    rw [h5] at hk
    refine wc_body (c_law_a_known (n + 1) _ _ g) ?_
    rw [u_law_a_known]
    simp (decide := true) (implicitDefEqProofs := false) only [t_law_a_known_0, t_law_a_known_1, Ex.ok_words, NX_RBt, NX_SKe, NX_LKt, Q_ret, Q_expr, Q_set, Q_sub, Q_if, Q_seq, Q_next, Q_ct, Q_bk, Q_retN, LK_nx, LK_ct, LK_bk, LK_rt, W_rng1, gName, SK_nx, SK_rt, SK_bk, SK_ct, RB_nx, RB_rt, W_var0, W_varS, W_c, W_op2, W_op1, W_nil, W_cons, W_fn, W_mt, W_call, W_tup, W_lst, W_dct0, W_pn, W_part, W_sl, W_isTy, W_tru, W_bl, W_and, W_or, W_not, W_eBl, W_if, W_eAnd, W_eOr, W_yes, O_ix_0, O_ix_1, O_ix_2, O_ix_3, O_ix_4, O_eq_ss, O_ne_ss, O_eq_ii, O_ne_ii, O_in_1, O_in_2, O_in_3, O_lt, O_le, O_gt, O_ge, O_add, O_sub, O_neg, O_int, O_intb, O_lent, O_min, O_max, O_tuplet, PV.bl.injEq, PV.int.injEq, PV.str.injEq, exists_eq_left', exists_eq_left, List.set_cons_zero, List.set_cons_succ, List.length_cons, List.length_nil, if_true, if_false, Bool.false_eq_true, decide_true, decide_false, ite_true, ite_false]
    refine w_pickK n (J.app _) (by omega) (by decide) fun v g1 a1 b1 J1 F1 => ?_
    have at_ := F1.get (new_at (g := g)) (by have := J.lt; simp; omega)
    refine O_some_of at_ a1 (by simpa using b1) fun x hx => ?_
    have hx' : ∃ w, x = .str w ∧ (w ∈ (["num", "name"] : List Str) ∨ w ∈ (["plus", "less", "let", "look", "way", "if", "tell", "anew"] : List Str) ∨ w = "clean") := by
      simp only [List.mem_cons, List.not_mem_nil, or_false] at hx
      rcases hx with rfl | rfl | rfl | rfl | rfl | rfl | rfl | rfl | rfl | rfl | rfl | rfl <;> exact ⟨_, rfl, by decide⟩
    obtain ⟨w, rfl, hw⟩ := hx'
    have wok : PyData.strOk w = true := by
      have : ∀ w : Str, w ∈ (["num", "name", "plus", "less", "let", "look", "way", "if", "tell", "anew", "clean"] : List Str) → PyData.strOk w = true := by decide +kernel
      refine this w ?_
      simp only [List.mem_cons, List.not_mem_nil, or_false] at hw ⊢
      rcases hw with (rfl | rfl) | (rfl | rfl | rfl | rfl | rfl | rfl | rfl | rfl) | rfl <;> decide
    have leaf : ∀ {c : Prop} [Decidable c], WC (CF (n + 1)) ("", "_law_pick") [.ref t, .int 5] g1 fun x g2 => O (opSub x (.int 2) g2) fun y g3 => O (opIx (.ref g3.length) (.int (if decide c = true then 1 else 0)) (g3 ++ [GO.lst [.tup [.str "num", y], .tup [.str "name", .str "x"]]])) Q := by
      intro c _
      refine w_pickK n J1 (by omega) (by decide) fun v2 g2 a2 b2 J2 F2 => ?_
      rw [O_sub, O_ix2 new_at]
      split
      · exact q (.name "x") _ _ (fun body => ⟨(show nameOk "x" = true by decide +kernel), by simp only [Ex.dep]; omega⟩) (by omega) (by omega) (J2.app _)
      · exact q (.num _) _ _ (fun body => ⟨rfl, by simp only [Ex.dep]; omega⟩) (by omega) (by omega) (J2.app _)
    have ih : 1 ≤ d → ∀ {g : G} {k' : Nat} {Q : PV → G → Prop}, k ≤ k' → k' ≤ k + 30 * 4 ^ d + 4 → KJ t g k' g → (∀ e k2 g2, (∀ body, Grown false body d e) → k' ≤ k2 → k2 ≤ k' + 10 * 4 ^ d → KJ t g k2 g2 → Q e.pv g2) → WC (CF (n + 1)) ("", "_law_a_known") [.ref t, .int (i - 1)] g Q := by
      intro hd g k' Q h1 h2 J' hq
      obtain ⟨n', rfl⟩ : ∃ n', n = n' + 1 := ⟨n - 1, by omega⟩
      exact w_a_known d n' (by omega) hd (by omega) J' (by omega) hq
    by_cases hd : d = 0
    · subst hd
      have h2 : i < 2 := by omega
      simp (decide := true) (implicitDefEqProofs := false) only [t_law_a_known_2, Ex.ok_words, NX_RBt, NX_SKe, NX_LKt, Q_ret, Q_expr, Q_set, Q_sub, Q_if, Q_seq, Q_next, Q_ct, Q_bk, Q_retN, LK_nx, LK_ct, LK_bk, LK_rt, W_rng1, gName, SK_nx, SK_rt, SK_bk, SK_ct, RB_nx, RB_rt, W_var0, W_varS, W_c, W_op2, W_op1, W_nil, W_cons, W_fn, W_mt, W_call, W_tup, W_lst, W_dct0, W_pn, W_part, W_sl, W_isTy, W_tru, W_bl, W_and, W_or, W_not, W_eBl, W_if, W_eAnd, W_eOr, W_yes, O_ix_0, O_ix_1, O_ix_2, O_ix_3, O_ix_4, O_eq_ss, O_ne_ss, O_eq_ii, O_ne_ii, O_in_1, O_in_2, O_in_3, O_lt, O_le, O_gt, O_ge, O_add, O_sub, O_neg, O_int, O_intb, O_lent, O_min, O_max, O_tuplet, PV.bl.injEq, PV.int.injEq, PV.str.injEq, exists_eq_left', exists_eq_left, List.set_cons_zero, List.set_cons_succ, List.length_cons, List.length_nil, if_true, if_false, Bool.false_eq_true, decide_true, decide_false, ite_true, ite_false, h2, wok]
      exact leaf
    · have h2 : ¬ i < 2 := by omega
      rcases hw with hw | hw | rfl
      · have e : (decide ((Str.ofString "num") = w) || decide ((Str.ofString "name") = w)) = true := by
          simp only [List.mem_cons, List.not_mem_nil, or_false] at hw
          rcases hw with rfl | rfl <;> decide
        simp (decide := true) (implicitDefEqProofs := false) only [t_law_a_known_2, Ex.ok_words, NX_RBt, NX_SKe, NX_LKt, Q_ret, Q_expr, Q_set, Q_sub, Q_if, Q_seq, Q_next, Q_ct, Q_bk, Q_retN, LK_nx, LK_ct, LK_bk, LK_rt, W_rng1, gName, SK_nx, SK_rt, SK_bk, SK_ct, RB_nx, RB_rt, W_var0, W_varS, W_c, W_op2, W_op1, W_nil, W_cons, W_fn, W_mt, W_call, W_tup, W_lst, W_dct0, W_pn, W_part, W_sl, W_isTy, W_tru, W_bl, W_and, W_or, W_not, W_eBl, W_if, W_eAnd, W_eOr, W_yes, O_ix_0, O_ix_1, O_ix_2, O_ix_3, O_ix_4, O_eq_ss, O_ne_ss, O_eq_ii, O_ne_ii, O_in_1, O_in_2, O_in_3, O_lt, O_le, O_gt, O_ge, O_add, O_sub, O_neg, O_int, O_intb, O_lent, O_min, O_max, O_tuplet, PV.bl.injEq, PV.int.injEq, PV.str.injEq, exists_eq_left', exists_eq_left, List.set_cons_zero, List.set_cons_succ, List.length_cons, List.length_nil, if_true, if_false, Bool.false_eq_true, decide_true, decide_false, ite_true, ite_false, h2, wok, e]
        exact leaf
      · have e : (decide ((Str.ofString "num") = w) || decide ((Str.ofString "name") = w)) = false := by
          simp only [List.mem_cons, List.not_mem_nil, or_false] at hw
          rcases hw with rfl | rfl | rfl | rfl | rfl | rfl | rfl | rfl <;> decide
        have e3 : w ≠ "clean" := by
          simp only [List.mem_cons, List.not_mem_nil, or_false] at hw
          rcases hw with rfl | rfl | rfl | rfl | rfl | rfl | rfl | rfl <;> decide
        simp (decide := true) (implicitDefEqProofs := false) only [t_law_a_known_2, t_law_a_known_3, Ex.ok_words, NX_RBt, NX_SKe, NX_LKt, Q_ret, Q_expr, Q_set, Q_sub, Q_if, Q_seq, Q_next, Q_ct, Q_bk, Q_retN, LK_nx, LK_ct, LK_bk, LK_rt, W_rng1, gName, SK_nx, SK_rt, SK_bk, SK_ct, RB_nx, RB_rt, W_var0, W_varS, W_c, W_op2, W_op1, W_nil, W_cons, W_fn, W_mt, W_call, W_tup, W_lst, W_dct0, W_pn, W_part, W_sl, W_isTy, W_tru, W_bl, W_and, W_or, W_not, W_eBl, W_if, W_eAnd, W_eOr, W_yes, O_ix_0, O_ix_1, O_ix_2, O_ix_3, O_ix_4, O_eq_ss, O_ne_ss, O_eq_ii, O_ne_ii, O_in_1, O_in_2, O_in_3, O_lt, O_le, O_gt, O_ge, O_add, O_sub, O_neg, O_int, O_intb, O_lent, O_min, O_max, O_tuplet, PV.bl.injEq, PV.int.injEq, PV.str.injEq, exists_eq_left', exists_eq_left, List.set_cons_zero, List.set_cons_succ, List.length_cons, List.length_nil, if_true, if_false, Bool.false_eq_true, decide_true, decide_false, ite_true, ite_false, h2, wok, e, e3]
        refine known_end n J1 (by omega) hw ?_ fun e k' g' p1 p2 p3 p4 => q e k' g' p1 (by omega) (by omega) p4
        intro g' k' Q' p1 p2 J' hq
        exact ih (by omega) (by omega) (by omega) J' hq
      · simp (decide := true) (implicitDefEqProofs := false) only [t_law_a_known_2, t_law_a_known_3, Ex.ok_words, NX_RBt, NX_SKe, NX_LKt, Q_ret, Q_expr, Q_set, Q_sub, Q_if, Q_seq, Q_next, Q_ct, Q_bk, Q_retN, LK_nx, LK_ct, LK_bk, LK_rt, W_rng1, gName, SK_nx, SK_rt, SK_bk, SK_ct, RB_nx, RB_rt, W_var0, W_varS, W_c, W_op2, W_op1, W_nil, W_cons, W_fn, W_mt, W_call, W_tup, W_lst, W_dct0, W_pn, W_part, W_sl, W_isTy, W_tru, W_bl, W_and, W_or, W_not, W_eBl, W_if, W_eAnd, W_eOr, W_yes, O_ix_0, O_ix_1, O_ix_2, O_ix_3, O_ix_4, O_eq_ss, O_ne_ss, O_eq_ii, O_ne_ii, O_in_1, O_in_2, O_in_3, O_lt, O_le, O_gt, O_ge, O_add, O_sub, O_neg, O_int, O_intb, O_lent, O_min, O_max, O_tuplet, PV.bl.injEq, PV.int.injEq, PV.str.injEq, exists_eq_left', exists_eq_left, List.set_cons_zero, List.set_cons_succ, List.length_cons, List.length_nil, if_true, if_false, Bool.false_eq_true, decide_true, decide_false, ite_true, ite_false, h2]
        refine w_pickK n (J1.app _) (by omega) (by decide) fun v2 g2 a2 b2 J2 F2 => ?_
        have at2 := F2.get (new_at (g := g1)) (by have := J1.lt; have := J1.fr.le; simp; omega)
        have dv : ∀ g Q, O (opDiv (.int v2) (.int 3) g) Q = Q (.int (v2 / 3)) g := fun g Q => O_div _ _ _ _ (by decide)
        have fin : ∀ c : Ex, (∀ body, c.ok body true = true) → c.dep ≤ d → WC (CF (n + 1)) ("", "_law_a_known") [.ref t, .int (i - 1)] g2 fun y g' => Q (.tup [.str "clean", c.pv, y]) g' := by
          intro c hc hcd
          refine ih (by omega) (by omega) (by omega) J2.here fun e k' g' p1 p2 p3 p4 => ?_
          exact q (.clean c e) k' g' (fun body => ⟨by simp [Ex.ok, hc body, (p1 body).ok], by have := (p1 0).dp; simp only [Ex.dep]; omega⟩) (by omega) (by omega) (J2.then p4)
        by_cases h3 : (2 : Int) < i
        · have mu : ∀ g Q, O (opMul (.int (v2 / 3)) (.int 1) g) Q = Q (.int (v2 / 3 * 1)) g := fun g Q => O_mul _ _ _ _ (by simp [small64])
          simp (decide := true) (implicitDefEqProofs := false) only [Ex.ok_words, NX_RBt, NX_SKe, NX_LKt, Q_ret, Q_expr, Q_set, Q_sub, Q_if, Q_seq, Q_next, Q_ct, Q_bk, Q_retN, LK_nx, LK_ct, LK_bk, LK_rt, W_rng1, gName, SK_nx, SK_rt, SK_bk, SK_ct, RB_nx, RB_rt, W_var0, W_varS, W_c, W_op2, W_op1, W_nil, W_cons, W_fn, W_mt, W_call, W_tup, W_lst, W_dct0, W_pn, W_part, W_sl, W_isTy, W_tru, W_bl, W_and, W_or, W_not, W_eBl, W_if, W_eAnd, W_eOr, W_yes, O_ix_0, O_ix_1, O_ix_2, O_ix_3, O_ix_4, O_eq_ss, O_ne_ss, O_eq_ii, O_ne_ii, O_in_1, O_in_2, O_in_3, O_lt, O_le, O_gt, O_ge, O_add, O_sub, O_neg, O_int, O_intb, O_lent, O_min, O_max, O_tuplet, PV.bl.injEq, PV.int.injEq, PV.str.injEq, exists_eq_left', exists_eq_left, List.set_cons_zero, List.set_cons_succ, List.length_cons, List.length_nil, if_true, if_false, Bool.false_eq_true, decide_true, decide_false, ite_true, ite_false, dv, h3, mu]
          refine O_some_of at2 (by omega) (by simp; omega) fun y hy => ?_
          simp only [List.mem_cons, List.not_mem_nil, or_false] at hy
          rcases hy with rfl | rfl
          · exact fin (.num 1) (fun _ => rfl) (by simp only [Ex.dep]; omega)
          · exact fin (.tell (.num 2)) (fun _ => rfl) (by simp only [Ex.dep]; omega)
        · have mu : ∀ g Q, O (opMul (.int (v2 / 3)) (.int 0) g) Q = Q (.int 0) g := fun g Q => by rw [O_mul _ _ _ _ (by simp [small64]), Int.mul_zero]
          simp (decide := true) (implicitDefEqProofs := false) only [Ex.ok_words, NX_RBt, NX_SKe, NX_LKt, Q_ret, Q_expr, Q_set, Q_sub, Q_if, Q_seq, Q_next, Q_ct, Q_bk, Q_retN, LK_nx, LK_ct, LK_bk, LK_rt, W_rng1, gName, SK_nx, SK_rt, SK_bk, SK_ct, RB_nx, RB_rt, W_var0, W_varS, W_c, W_op2, W_op1, W_nil, W_cons, W_fn, W_mt, W_call, W_tup, W_lst, W_dct0, W_pn, W_part, W_sl, W_isTy, W_tru, W_bl, W_and, W_or, W_not, W_eBl, W_if, W_eAnd, W_eOr, W_yes, O_ix_0, O_ix_1, O_ix_2, O_ix_3, O_ix_4, O_eq_ss, O_ne_ss, O_eq_ii, O_ne_ii, O_in_1, O_in_2, O_in_3, O_lt, O_le, O_gt, O_ge, O_add, O_sub, O_neg, O_int, O_intb, O_lent, O_min, O_max, O_tuplet, PV.bl.injEq, PV.int.injEq, PV.str.injEq, exists_eq_left', exists_eq_left, List.set_cons_zero, List.set_cons_succ, List.length_cons, List.length_nil, if_true, if_false, Bool.false_eq_true, decide_true, decide_false, ite_true, ite_false, dv, h3, mu]
          rw [O_ix_l _ _ at2 (atI_ok (i := 0) (by decide) rfl)]
          exact fin (.num 1) (fun _ => rfl) (by simp only [Ex.dep]; omega)
end K19
end

section
set_option maxRecDepth 100000
set_option maxHeartbeats 2000000
/-! the law -/
namespace K19
open PySem Vm

def NN : Nat := 40
def L1 (ns : List Int) (pr j : Nat) (σ : Sl) (g' : G) : Prop := ∃ (x2 x4 x5 : Option PV) (ps : List (List Ex)), σ = [some (.ref 0), some (.ref pr), x2, none, x4, x5, none, none] ∧ g'[0]? = some (.rol (ns.map .int)) ∧ g'[pr]? = some (.lst (ps.map fun es => .tup (es.map Ex.pv))) ∧ (∀ es ∈ ps, Prog es) ∧ ps.length ≤ 1 + j
theorem law_1 {ns : List Int} {pr j : Nat} {σ : Sl} {g' : G} {D : RS → Prop} (hj : j < 6) (I : L1 ns pr j σ g') : WS
  (sSeq (sAsg (gName 4) (eCall (CF 39) ("", "_law_a_tape") (eCons (eVar 0) (eCons (eOp2 opAdd (eC (.int 2)) (eVar 2)) eNil))))
   (sSeq (sAsg (gName 5) (eCall (CF 39) ("", "_law_a_known") (eCons (eVar 4) (eCons (eOp2 opAdd (eC (.int 2)) (eCall (CF 39) ("", "_law_pick") (eCons (eVar 4) (eCons (eC (.int 7)) eNil)))) eNil))))
   (sSeq (sIf (tBl (eOp2 opLt (eCall (CF 39) ("", "_law_count") (eCons (eVar 5) eNil)) (eC (.int 81))))
    (sSeq (sExpr (eMt isL mAppend (eVar 1) (eCons (eTup (eCons (eVar 5) eNil)) eNil)))
     (sNext))
    (sNext))
   (sNext)))) (σ.set 2 (some (.int j))) g' (LK (L1 ns pr (j + 1)) D) := by
  obtain ⟨x2, x4, x5, ps, rfl, h0, hpr, hps, hl⟩ := I
  have cs : (2 + (j : Int)) = ((2 + j : Nat) : Int) := by omega
  simp (decide := true) (implicitDefEqProofs := false) only [Ex.ok_words, NX_RBt, NX_SKe, NX_LKt, Q_ret, Q_expr, Q_set, Q_sub, Q_if, Q_seq, Q_next, Q_ct, Q_bk, Q_retN, LK_nx, LK_ct, LK_bk, LK_rt, W_rng1, gName, SK_nx, SK_rt, SK_bk, SK_ct, RB_nx, RB_rt, W_var0, W_varS, W_c, W_op2, W_op1, W_nil, W_cons, W_fn, W_mt, W_call, W_tup, W_lst, W_dct0, W_pn, W_part, W_sl, W_isTy, W_tru, W_bl, W_and, W_or, W_not, W_eBl, W_if, W_eAnd, W_eOr, W_yes, O_ix_0, O_ix_1, O_ix_2, O_ix_3, O_ix_4, O_eq_ss, O_ne_ss, O_eq_ii, O_ne_ii, O_in_1, O_in_2, O_in_3, O_lt, O_le, O_gt, O_ge, O_add, O_sub, O_neg, O_int, O_intb, O_lent, O_min, O_max, O_tuplet, PV.bl.injEq, PV.int.injEq, PV.str.injEq, exists_eq_left', exists_eq_left, List.set_cons_zero, List.set_cons_succ, List.length_cons, List.length_nil, if_true, if_false, Bool.false_eq_true, decide_true, decide_false, ite_true, ite_false, cs]
  refine w_a_tape 37 h0 fun xs p1 p2 => ?_
  generalize hg1 : g' ++ [GO.lst (xs.map .int), GO.lst [PV.ref g'.length, PV.int 0]] = g1
  have F1 : Fr [] g' g1 := by rw [← hg1]; exact Fr.app _
  have T1 : TP (g'.length + 1) 0 g1 := by
    rw [← hg1]
    exact ⟨g'.length, xs, by simp, by simp, p1, p2, by omega⟩
  have prl := (List.getElem?_eq_some_iff.mp hpr).1
  generalize ht : g'.length + 1 = t at T1
  refine w_pickK 38 (KJ.start T1) (by decide) (by decide) fun v g2 a2 b2 J2 F2 => ?_
  obtain ⟨d, hd⟩ : ∃ d : Nat, 2 + v = (d : Int) := ⟨(2 + v).toNat, by omega⟩
  have h4d : 4 ^ d ≤ 4 ^ 8 := Nat.pow_le_pow_right (by decide) (by omega)
  have h48 : 4 ^ 8 = 65536 := by decide
  rw [h48] at h4d
  simp (decide := true) (implicitDefEqProofs := false) only [Ex.ok_words, NX_RBt, NX_SKe, NX_LKt, Q_ret, Q_expr, Q_set, Q_sub, Q_if, Q_seq, Q_next, Q_ct, Q_bk, Q_retN, LK_nx, LK_ct, LK_bk, LK_rt, W_rng1, gName, SK_nx, SK_rt, SK_bk, SK_ct, RB_nx, RB_rt, W_var0, W_varS, W_c, W_op2, W_op1, W_nil, W_cons, W_fn, W_mt, W_call, W_tup, W_lst, W_dct0, W_pn, W_part, W_sl, W_isTy, W_tru, W_bl, W_and, W_or, W_not, W_eBl, W_if, W_eAnd, W_eOr, W_yes, O_ix_0, O_ix_1, O_ix_2, O_ix_3, O_ix_4, O_eq_ss, O_ne_ss, O_eq_ii, O_ne_ii, O_in_1, O_in_2, O_in_3, O_lt, O_le, O_gt, O_ge, O_add, O_sub, O_neg, O_int, O_intb, O_lent, O_min, O_max, O_tuplet, PV.bl.injEq, PV.int.injEq, PV.str.injEq, exists_eq_left', exists_eq_left, List.set_cons_zero, List.set_cons_succ, List.length_cons, List.length_nil, if_true, if_false, Bool.false_eq_true, decide_true, decide_false, ite_true, ite_false]
  refine w_a_known d 37 hd (by omega) (by omega) J2.here (by omega) fun e k3 g3 he p3 p4 J3 => ?_
  have J23 := J2.then J3
  have hpr3 : g3[pr]? = _ := J23.fr.get (F1.get hpr (by simp)) (by simp; omega)
  have h03 : g3[0]? = _ := J23.fr.get (F1.get h0 (by simp)) (by simp; omega)
  refine w_count 38 e (by have := (he 0).dp; omega) fun m => ?_
  have hpr4 : (g3 ++ m)[pr]? = _ := (Fr.app (S := []) m).get hpr3 (by simp)
  have h04 : (g3 ++ m)[0]? = _ := (Fr.app (S := []) m).get h03 (by simp)
  have prl4 := (List.getElem?_eq_some_iff.mp hpr4).1
  by_cases hc : e.count < 81
  · simp (decide := true) (implicitDefEqProofs := false) only [Ex.ok_words, NX_RBt, NX_SKe, NX_LKt, Q_ret, Q_expr, Q_set, Q_sub, Q_if, Q_seq, Q_next, Q_ct, Q_bk, Q_retN, LK_nx, LK_ct, LK_bk, LK_rt, W_rng1, gName, SK_nx, SK_rt, SK_bk, SK_ct, RB_nx, RB_rt, W_var0, W_varS, W_c, W_op2, W_op1, W_nil, W_cons, W_fn, W_mt, W_call, W_tup, W_lst, W_dct0, W_pn, W_part, W_sl, W_isTy, W_tru, W_bl, W_and, W_or, W_not, W_eBl, W_if, W_eAnd, W_eOr, W_yes, O_ix_0, O_ix_1, O_ix_2, O_ix_3, O_ix_4, O_eq_ss, O_ne_ss, O_eq_ii, O_ne_ii, O_in_1, O_in_2, O_in_3, O_lt, O_le, O_gt, O_ge, O_add, O_sub, O_neg, O_int, O_intb, O_lent, O_min, O_max, O_tuplet, PV.bl.injEq, PV.int.injEq, PV.str.injEq, exists_eq_left', exists_eq_left, List.set_cons_zero, List.set_cons_succ, List.length_cons, List.length_nil, if_true, if_false, Bool.false_eq_true, decide_true, decide_false, ite_true, ite_false, hc, isL_ok _ hpr4]
    rw [O_app _ _ hpr4 (by rw [List.length_map]; unfold big; omega)]
    refine ⟨_, _, _, ps ++ [[e]], rfl, ?_, ?_, ?_, by simp; omega⟩
    · rw [List.getElem?_set_ne (fun q => by subst q; rw [h04] at hpr4; cases hpr4)]
      exact h04
    · rw [List.getElem?_set_self prl4]
      simp
    · intro es hes
      rcases List.mem_append.mp hes with h | h
      · exact hps es h
      · rw [List.mem_singleton.mp h]
        exact Prog.one (he 0).ok (by have := (he 0).dp; omega) (by omega)
  · simp (decide := true) (implicitDefEqProofs := false) only [Ex.ok_words, NX_RBt, NX_SKe, NX_LKt, Q_ret, Q_expr, Q_set, Q_sub, Q_if, Q_seq, Q_next, Q_ct, Q_bk, Q_retN, LK_nx, LK_ct, LK_bk, LK_rt, W_rng1, gName, SK_nx, SK_rt, SK_bk, SK_ct, RB_nx, RB_rt, W_var0, W_varS, W_c, W_op2, W_op1, W_nil, W_cons, W_fn, W_mt, W_call, W_tup, W_lst, W_dct0, W_pn, W_part, W_sl, W_isTy, W_tru, W_bl, W_and, W_or, W_not, W_eBl, W_if, W_eAnd, W_eOr, W_yes, O_ix_0, O_ix_1, O_ix_2, O_ix_3, O_ix_4, O_eq_ss, O_ne_ss, O_eq_ii, O_ne_ii, O_in_1, O_in_2, O_in_3, O_lt, O_le, O_gt, O_ge, O_add, O_sub, O_neg, O_int, O_intb, O_lent, O_min, O_max, O_tuplet, PV.bl.injEq, PV.int.injEq, PV.str.injEq, exists_eq_left', exists_eq_left, List.set_cons_zero, List.set_cons_succ, List.length_cons, List.length_nil, if_true, if_false, Bool.false_eq_true, decide_true, decide_false, ite_true, ite_false, hc]
    exact ⟨_, _, _, ps, rfl, h04, hpr4, hps, by omega⟩
theorem law_2 {es : List Ex} {pr : Nat} {x2 x4 x5 x6 x7 : Option PV} {g' : G} {D : RS → Prop} (P : Prog es) (q : ∀ y5 y6 y7 m, D (.nx [some (.ref 0), some (.ref pr), x2, some (.tup (es.map Ex.pv)), x4, y5, y6, y7] (g' ++ m))) (hD : NX D) : WS
  (sSeq (sAsg (gName 6) (eFn fTuple (eCons (eComp (iBs (eVar 3)) [5] (gName 5) tYes (eCall (CF 39) ("", "_law_folded") (eCons (eVar 5) eNil))) eNil)))
   (sSeq (sAsg (gName 7) (eCall (CF 39) ("", "folded") (eCons (eVar 3) eNil)))
   (sSeq (sIf (tOr (tBl (eOp2 opNe (eVar 7) (eVar 6))) (tOr (tNot (tTru (eCall (CF 39) ("", "_law_is_program") (eCons (eVar 7) eNil)))) (tBl (eOp2 opNe (eCall (CF 39) ("", "folded") (eCons (eVar 7) eNil)) (eVar 7)))))
    (sSeq (sRet (eC (.bl false)))
     (sNext))
    (sNext))
   (sNext)))) [some (.ref 0), some (.ref pr), x2, some (.tup (es.map Ex.pv)), x4, x5, x6, x7] g' D := by
  have hD' : NX D = True := eq_true hD
  simp (decide := true) (implicitDefEqProofs := false) only [Ex.ok_words, NX_RBt, NX_SKe, NX_LKt, Q_ret, Q_expr, Q_set, Q_sub, Q_if, Q_seq, Q_next, Q_ct, Q_bk, Q_retN, LK_nx, LK_ct, LK_bk, LK_rt, W_rng1, gName, SK_nx, SK_rt, SK_bk, SK_ct, RB_nx, RB_rt, W_var0, W_varS, W_c, W_op2, W_op1, W_nil, W_cons, W_fn, W_mt, W_call, W_tup, W_lst, W_dct0, W_pn, W_part, W_sl, W_isTy, W_tru, W_bl, W_and, W_or, W_not, W_eBl, W_if, W_eAnd, W_eOr, W_yes, O_ix_0, O_ix_1, O_ix_2, O_ix_3, O_ix_4, O_eq_ss, O_ne_ss, O_eq_ii, O_ne_ii, O_in_1, O_in_2, O_in_3, O_lt, O_le, O_gt, O_ge, O_add, O_sub, O_neg, O_int, O_intb, O_lent, O_min, O_max, O_tuplet, PV.bl.injEq, PV.int.injEq, PV.str.injEq, exists_eq_left', exists_eq_left, List.set_cons_zero, List.set_cons_succ, List.length_cons, List.length_nil, if_true, if_false, Bool.false_eq_true, decide_true, decide_false, ite_true, ite_false, hD']
  generalize hσ : [some (PV.ref 0), some (PV.ref pr), x2, some (PV.tup (es.map Ex.pv)), x4, x5, x6, x7] = σ0
  have l4 := P.le
  refine wp_map (L := es.map Ex.pv) (ys := es.map fun e => e.folded.pv) (by simp) (by rw [List.length_map]; unfold big; omega) ?_ ?_
  · subst hσ
    simp (decide := true) (implicitDefEqProofs := false) only [W_bs, Ex.ok_words, NX_RBt, NX_SKe, NX_LKt, Q_ret, Q_expr, Q_set, Q_sub, Q_if, Q_seq, Q_next, Q_ct, Q_bk, Q_retN, LK_nx, LK_ct, LK_bk, LK_rt, W_rng1, gName, SK_nx, SK_rt, SK_bk, SK_ct, RB_nx, RB_rt, W_var0, W_varS, W_c, W_op2, W_op1, W_nil, W_cons, W_fn, W_mt, W_call, W_tup, W_lst, W_dct0, W_pn, W_part, W_sl, W_isTy, W_tru, W_bl, W_and, W_or, W_not, W_eBl, W_if, W_eAnd, W_eOr, W_yes, O_ix_0, O_ix_1, O_ix_2, O_ix_3, O_ix_4, O_eq_ss, O_ne_ss, O_eq_ii, O_ne_ii, O_in_1, O_in_2, O_in_3, O_lt, O_le, O_gt, O_ge, O_add, O_sub, O_neg, O_int, O_intb, O_lent, O_min, O_max, O_tuplet, PV.bl.injEq, PV.int.injEq, PV.str.injEq, exists_eq_left', exists_eq_left, List.set_cons_zero, List.set_cons_succ, List.length_cons, List.length_nil, if_true, if_false, Bool.false_eq_true, decide_true, decide_false, ite_true, ite_false, bs_tup]
    refine ⟨fun m => items_tup _ _, fun m => ?_⟩
    have at_ : ∀ m2, ((g' ++ GO.lst (es.map fun e => e.folded.pv) :: m) ++ m2)[g'.length]? = some (.lst (es.map fun e => e.folded.pv)) := fun m2 => by simp
    have at0 := at_ []
    rw [List.append_nil] at at0
    rw [O_tuplel _ _ (seq_l _ at0)]
    generalize hg1 : g' ++ GO.lst (es.map fun e => e.folded.pv) :: m = g1
    refine w_folded 35 es (fun e he => by have := P.dp e he; omega) (by omega) fun m1 => ?_
    have P2 := P.fold
    have e2 : (es.map fun e => e.folded.pv) = (es.map Ex.folded).map Ex.pv := by rw [List.map_map]; rfl
    have Dt := P2.dat
    rw [← e2] at Dt
    simp (decide := true) (implicitDefEqProofs := false) only [Ex.ok_words, NX_RBt, NX_SKe, NX_LKt, Q_ret, Q_expr, Q_set, Q_sub, Q_if, Q_seq, Q_next, Q_ct, Q_bk, Q_retN, LK_nx, LK_ct, LK_bk, LK_rt, W_rng1, gName, SK_nx, SK_rt, SK_bk, SK_ct, RB_nx, RB_rt, W_var0, W_varS, W_c, W_op2, W_op1, W_nil, W_cons, W_fn, W_mt, W_call, W_tup, W_lst, W_dct0, W_pn, W_part, W_sl, W_isTy, W_tru, W_bl, W_and, W_or, W_not, W_eBl, W_if, W_eAnd, W_eOr, W_yes, O_ix_0, O_ix_1, O_ix_2, O_ix_3, O_ix_4, O_eq_ss, O_ne_ss, O_eq_ii, O_ne_ii, O_in_1, O_in_2, O_in_3, O_lt, O_le, O_gt, O_ge, O_add, O_sub, O_neg, O_int, O_intb, O_lent, O_min, O_max, O_tuplet, PV.bl.injEq, PV.int.injEq, PV.str.injEq, exists_eq_left', exists_eq_left, List.set_cons_zero, List.set_cons_succ, List.length_cons, List.length_nil, if_true, if_false, Bool.false_eq_true, decide_true, decide_false, ite_true, ite_false, O_ne_same _ _ Dt]
    rw [e2]
    refine w_l_is_program 21 P2 fun m2 => ?_
    simp (decide := true) (implicitDefEqProofs := false) only [Ex.ok_words, NX_RBt, NX_SKe, NX_LKt, Q_ret, Q_expr, Q_set, Q_sub, Q_if, Q_seq, Q_next, Q_ct, Q_bk, Q_retN, LK_nx, LK_ct, LK_bk, LK_rt, W_rng1, gName, SK_nx, SK_rt, SK_bk, SK_ct, RB_nx, RB_rt, W_var0, W_varS, W_c, W_op2, W_op1, W_nil, W_cons, W_fn, W_mt, W_call, W_tup, W_lst, W_dct0, W_pn, W_part, W_sl, W_isTy, W_tru, W_bl, W_and, W_or, W_not, W_eBl, W_if, W_eAnd, W_eOr, W_yes, O_ix_0, O_ix_1, O_ix_2, O_ix_3, O_ix_4, O_eq_ss, O_ne_ss, O_eq_ii, O_ne_ii, O_in_1, O_in_2, O_in_3, O_lt, O_le, O_gt, O_ge, O_add, O_sub, O_neg, O_int, O_intb, O_lent, O_min, O_max, O_tuplet, PV.bl.injEq, PV.int.injEq, PV.str.injEq, exists_eq_left', exists_eq_left, List.set_cons_zero, List.set_cons_succ, List.length_cons, List.length_nil, if_true, if_false, Bool.false_eq_true, decide_true, decide_false, ite_true, ite_false, tru, Bool.not_true]
    refine w_folded 35 (es.map Ex.folded) (fun e he => by have := P2.dp e he; omega) (by rw [List.length_map]; omega) fun m3 => ?_
    have e3 : ((es.map Ex.folded).map fun e => e.folded.pv) = (es.map Ex.folded).map Ex.pv := by
      rw [List.map_map, List.map_map]
      refine List.map_congr_left fun e _ => ?_
      show e.folded.folded.pv = e.folded.pv
      rw [Ex.folded_idem]
    rw [e3, O_ne_same _ _ (by rw [← e2]; exact Dt)]
    simp (decide := true) (implicitDefEqProofs := false) only [Ex.ok_words, NX_RBt, NX_SKe, NX_LKt, Q_ret, Q_expr, Q_set, Q_sub, Q_if, Q_seq, Q_next, Q_ct, Q_bk, Q_retN, LK_nx, LK_ct, LK_bk, LK_rt, W_rng1, gName, SK_nx, SK_rt, SK_bk, SK_ct, RB_nx, RB_rt, W_var0, W_varS, W_c, W_op2, W_op1, W_nil, W_cons, W_fn, W_mt, W_call, W_tup, W_lst, W_dct0, W_pn, W_part, W_sl, W_isTy, W_tru, W_bl, W_and, W_or, W_not, W_eBl, W_if, W_eAnd, W_eOr, W_yes, O_ix_0, O_ix_1, O_ix_2, O_ix_3, O_ix_4, O_eq_ss, O_ne_ss, O_eq_ii, O_ne_ii, O_in_1, O_in_2, O_in_3, O_lt, O_le, O_gt, O_ge, O_add, O_sub, O_neg, O_int, O_intb, O_lent, O_min, O_max, O_tuplet, PV.bl.injEq, PV.int.injEq, PV.str.injEq, exists_eq_left', exists_eq_left, List.set_cons_zero, List.set_cons_succ, List.length_cons, List.length_nil, if_true, if_false, Bool.false_eq_true, decide_true, decide_false, ite_true, ite_false]
    have := fun y5 y6 y7 => q y5 y6 y7 (GO.lst (es.map fun e => e.folded.pv) :: m ++ m1 ++ m2 ++ m3)
    rw [← hg1]
    simpa using this _ _ _
  · intro j x y g2 Q' hx hy hq
    rw [List.getElem?_map] at hx hy
    cases hp : es[j]? with
    | none => rw [hp] at hx; cases hx
    | some e =>
      rw [hp] at hx hy
      cases hx
      cases hy
      subst hσ
      simp (decide := true) (implicitDefEqProofs := false) only [wipeP, Ex.ok_words, NX_RBt, NX_SKe, NX_LKt, Q_ret, Q_expr, Q_set, Q_sub, Q_if, Q_seq, Q_next, Q_ct, Q_bk, Q_retN, LK_nx, LK_ct, LK_bk, LK_rt, W_rng1, gName, SK_nx, SK_rt, SK_bk, SK_ct, RB_nx, RB_rt, W_var0, W_varS, W_c, W_op2, W_op1, W_nil, W_cons, W_fn, W_mt, W_call, W_tup, W_lst, W_dct0, W_pn, W_part, W_sl, W_isTy, W_tru, W_bl, W_and, W_or, W_not, W_eBl, W_if, W_eAnd, W_eOr, W_yes, O_ix_0, O_ix_1, O_ix_2, O_ix_3, O_ix_4, O_eq_ss, O_ne_ss, O_eq_ii, O_ne_ii, O_in_1, O_in_2, O_in_3, O_lt, O_le, O_gt, O_ge, O_add, O_sub, O_neg, O_int, O_intb, O_lent, O_min, O_max, O_tuplet, PV.bl.injEq, PV.int.injEq, PV.str.injEq, exists_eq_left', exists_eq_left, List.set_cons_zero, List.set_cons_succ, List.length_cons, List.length_nil, if_true, if_false, Bool.false_eq_true, decide_true, decide_false, ite_true, ite_false]
      obtain ⟨h1, h2, h3⟩ := P.each (List.mem_of_getElem? hp)
      exact w_l_folded 37 e ⟨h1, by omega, by omega⟩ (by omega) hq
theorem law_true (ns : List Int) (h : ns.length ≤ 63) : ∃ g', callF (tabF tbl) NN ("", "law") [.ref 0] [.rol (ns.map .int)] = some (.ok (.bl true) g') := by
  have main : WC (CF 40) ("", "law") [.ref 0] [.rol (ns.map .int)] fun v _ => v = .bl true := by
    refine wc_body (c_p_law 39 _ _) ?_
    rw [u_p_law]
    simp (decide := true) (implicitDefEqProofs := false) only [t_p_law_0, Ex.ok_words, NX_RBt, NX_SKe, NX_LKt, Q_ret, Q_expr, Q_set, Q_sub, Q_if, Q_seq, Q_next, Q_ct, Q_bk, Q_retN, LK_nx, LK_ct, LK_bk, LK_rt, W_rng1, gName, SK_nx, SK_rt, SK_bk, SK_ct, RB_nx, RB_rt, W_var0, W_varS, W_c, W_op2, W_op1, W_nil, W_cons, W_fn, W_mt, W_call, W_tup, W_lst, W_dct0, W_pn, W_part, W_sl, W_isTy, W_tru, W_bl, W_and, W_or, W_not, W_eBl, W_if, W_eAnd, W_eOr, W_yes, O_ix_0, O_ix_1, O_ix_2, O_ix_3, O_ix_4, O_eq_ss, O_ne_ss, O_eq_ii, O_ne_ii, O_in_1, O_in_2, O_in_3, O_lt, O_le, O_gt, O_ge, O_add, O_sub, O_neg, O_int, O_intb, O_lent, O_min, O_max, O_tuplet, PV.bl.injEq, PV.int.injEq, PV.str.injEq, exists_eq_left', exists_eq_left, List.set_cons_zero, List.set_cons_succ, List.length_cons, List.length_nil, if_true, if_false, Bool.false_eq_true, decide_true, decide_false, ite_true, ite_false]
    refine w_law_a_program (n := 36) (at_ := 0) (ns := ns) (by decide) rfl fun es g1 P F1 => ?_
    unfold t_p_law_1
    rw [Q_seq]
    generalize hσ : [some (PV.ref 0), some (PV.ref g1.length), none, none, none, none, none, none] = σ0
    refine wp_for2 ?_
    simp (decide := true) (implicitDefEqProofs := false) only [Ex.ok_words, NX_RBt, NX_SKe, NX_LKt, Q_ret, Q_expr, Q_set, Q_sub, Q_if, Q_seq, Q_next, Q_ct, Q_bk, Q_retN, LK_nx, LK_ct, LK_bk, LK_rt, W_rng1, gName, SK_nx, SK_rt, SK_bk, SK_ct, RB_nx, RB_rt, W_var0, W_varS, W_c, W_op2, W_op1, W_nil, W_cons, W_fn, W_mt, W_call, W_tup, W_lst, W_dct0, W_pn, W_part, W_sl, W_isTy, W_tru, W_bl, W_and, W_or, W_not, W_eBl, W_if, W_eAnd, W_eOr, W_yes, O_ix_0, O_ix_1, O_ix_2, O_ix_3, O_ix_4, O_eq_ss, O_ne_ss, O_eq_ii, O_ne_ii, O_in_1, O_in_2, O_in_3, O_lt, O_le, O_gt, O_ge, O_add, O_sub, O_neg, O_int, O_intb, O_lent, O_min, O_max, O_tuplet, PV.bl.injEq, PV.int.injEq, PV.str.injEq, exists_eq_left', exists_eq_left, List.set_cons_zero, List.set_cons_succ, List.length_cons, List.length_nil, if_true, if_false, Bool.false_eq_true, decide_true, decide_false, ite_true, ite_false]
    refine ⟨by decide, loop_rng (L1 ns g1.length) ⟨none, none, none, [es], hσ.symm, ?_, by simp, fun x hx => by rw [List.mem_singleton.mp hx]; exact P, by simp⟩ (fun j σ g' hj I => law_1 hj I) ?_⟩
    · have := F1.get (r := 0) (o := .rol (ns.map .int)) rfl (by simp)
      exact (Fr.app (S := []) _).get this (by simp)
    · rintro σ g' ⟨x2, x4, x5, ps, rfl, h0, hpr, hps, hl⟩
      rw [SK_nx]
      unfold t_p_law_2
      rw [Q_seq]
      generalize hσ : [some (PV.ref 0), some (PV.ref g1.length), x2, none, x4, x5, none, none] = σ0
      refine wp_for2 ?_
      subst hσ
      simp (decide := true) (implicitDefEqProofs := false) only [W_bs, Ex.ok_words, NX_RBt, NX_SKe, NX_LKt, Q_ret, Q_expr, Q_set, Q_sub, Q_if, Q_seq, Q_next, Q_ct, Q_bk, Q_retN, LK_nx, LK_ct, LK_bk, LK_rt, W_rng1, gName, SK_nx, SK_rt, SK_bk, SK_ct, RB_nx, RB_rt, W_var0, W_varS, W_c, W_op2, W_op1, W_nil, W_cons, W_fn, W_mt, W_call, W_tup, W_lst, W_dct0, W_pn, W_part, W_sl, W_isTy, W_tru, W_bl, W_and, W_or, W_not, W_eBl, W_if, W_eAnd, W_eOr, W_yes, O_ix_0, O_ix_1, O_ix_2, O_ix_3, O_ix_4, O_eq_ss, O_ne_ss, O_eq_ii, O_ne_ii, O_in_1, O_in_2, O_in_3, O_lt, O_le, O_gt, O_ge, O_add, O_sub, O_neg, O_int, O_intb, O_lent, O_min, O_max, O_tuplet, PV.bl.injEq, PV.int.injEq, PV.str.injEq, exists_eq_left', exists_eq_left, List.set_cons_zero, List.set_cons_succ, List.length_cons, List.length_nil, if_true, if_false, Bool.false_eq_true, decide_true, decide_false, ite_true, ite_false, bs_ref hpr]
      refine loop_run (L := ps.map fun es => .tup (es.map Ex.pv)) (fun i σ g' => ∃ x3 x5 x6 x7, σ = [some (PV.ref 0), some (PV.ref g1.length), x2, x3, x4, x5, x6, x7] ∧ g'[g1.length]? = some (.lst (ps.map fun es => .tup (es.map Ex.pv)))) ⟨_, _, _, _, rfl, hpr⟩ (fun i σ g' ⟨_, _, _, _, _, h⟩ => items_lst h) ?_ ?_
      · rintro i x σ g2 hx ⟨x3, x5, x6, x7, rfl, hg2⟩
        rw [List.getElem?_map] at hx
        cases hp : ps[i]? with
        | none => rw [hp] at hx; cases hx
        | some es2 =>
          rw [hp] at hx
          cases hx
          refine ⟨_, _, rfl, ?_⟩
          refine law_2 (hps es2 (List.mem_of_getElem? hp)) (fun y5 y6 y7 m => ?_) NX_LK
          exact ⟨_, _, _, _, rfl, (Fr.app (S := []) m).get hg2 (by simp)⟩
      · rintro σ g2 ⟨x3, x5, x6, x7, rfl, hg2⟩
        simp (decide := true) (implicitDefEqProofs := false) only [t_p_law_3, Ex.ok_words, NX_RBt, NX_SKe, NX_LKt, Q_ret, Q_expr, Q_set, Q_sub, Q_if, Q_seq, Q_next, Q_ct, Q_bk, Q_retN, LK_nx, LK_ct, LK_bk, LK_rt, W_rng1, gName, SK_nx, SK_rt, SK_bk, SK_ct, RB_nx, RB_rt, W_var0, W_varS, W_c, W_op2, W_op1, W_nil, W_cons, W_fn, W_mt, W_call, W_tup, W_lst, W_dct0, W_pn, W_part, W_sl, W_isTy, W_tru, W_bl, W_and, W_or, W_not, W_eBl, W_if, W_eAnd, W_eOr, W_yes, O_ix_0, O_ix_1, O_ix_2, O_ix_3, O_ix_4, O_eq_ss, O_ne_ss, O_eq_ii, O_ne_ii, O_in_1, O_in_2, O_in_3, O_lt, O_le, O_gt, O_ge, O_add, O_sub, O_neg, O_int, O_intb, O_lent, O_min, O_max, O_tuplet, PV.bl.injEq, PV.int.injEq, PV.str.injEq, exists_eq_left', exists_eq_left, List.set_cons_zero, List.set_cons_succ, List.length_cons, List.length_nil, if_true, if_false, Bool.false_eq_true, decide_true, decide_false, ite_true, ite_false]
  obtain ⟨v, g', e, rfl⟩ := WC_get main
  exact ⟨g', e⟩
end K19
end

section
set_option maxRecDepth 100000
namespace K19
open PySem L2 PySem.Spec PyProof.Rows Vm
theorem all_mk {l : PySem.W.OpenLaw} {w : World} {K : PySem.W.Frag} {h : Heap} {mg : Str → Option Value} {fa f0 f1 f2 f3 f4 f5 f6 f7 f8 f9 f10 f11 f12 f13 f14 f15 f16 f17 f18 f19 f20 f21 f22 f23 f24 f25 A_FORMS : Addr} (X : K.In h) (G : h.Ns mainGlobals mg) (hfa : mg "law" = some (.ref fa))
    {od0 an0 od1 an1 od2 an2 od3 an3 od4 an4 od5 an5 od6 an6 od7 an7 od8 an8 od9 an9 od10 an10 od11 an11 od12 an12 od13 an13 od14 an14 od15 an15 od16 an16 od17 an17 od18 an18 od19 an19 od20 an20 od21 an21 od22 an22 od23 an23 od24 an24 od25 an25 : Option Addr} {sl0 sl1 sl2 sl3 sl4 sl5 sl6 sl7 sl8 sl9 sl10 sl11 sl12 sl13 sl14 sl15 sl16 sl17 sl18 sl19 sl20 sl21 sl22 sl23 sl24 sl25 : Array (Option Value)} {oc0 kV0 dc0 pm0 cd0 ct0 oc1 kV1 dc1 pm1 cd1 ct1 oc2 kV2 dc2 pm2 cd2 ct2 oc3 kV3 dc3 pm3 cd3 ct3 oc4 kV4 dc4 pm4 cd4 ct4 oc5 kV5 dc5 pm5 cd5 ct5 oc6 kV6 dc6 pm6 cd6 ct6 oc7 kV7 dc7 pm7 cd7 ct7 oc8 kV8 dc8 pm8 cd8 ct8 oc9 kV9 dc9 pm9 cd9 ct9 oc10 kV10 dc10 pm10 cd10 ct10 oc11 kV11 dc11 pm11 cd11 ct11 oc12 kV12 dc12 pm12 cd12 ct12 oc13 kV13 dc13 pm13 cd13 ct13 oc14 kV14 dc14 pm14 cd14 ct14 oc15 kV15 dc15 pm15 cd15 ct15 oc16 kV16 dc16 pm16 cd16 ct16 oc17 kV17 dc17 pm17 cd17 ct17 oc18 kV18 dc18 pm18 cd18 ct18 oc19 kV19 dc19 pm19 cd19 ct19 oc20 kV20 dc20 pm20 cd20 ct20 oc21 kV21 dc21 pm21 cd21 ct21 oc22 kV22 dc22 pm22 cd22 ct22 oc23 kV23 dc23 pm23 cd23 ct23 oc24 kV24 dc24 pm24 cd24 ct24 oc25 kV25 dc25 pm25 cd25 ct25 : Value}
    (a0 : PySem.W.nsIn K mainGlobals "within" = some (some (.ref f0)))
    (l0 : K.lookup f0 = some ⟨oc0, od0, .func (PySem.W.fnOf "within" "within" (defArgs s_p_within) (defBody s_p_within) (defScope s_p_within) .none kV0 dc0 pm0 an0 cd0 ct0), sl0⟩)
    (c0 : PySem.W.codeIn K cd0 "within" = true)
    (k0 : PySem.W.keepIn K (.ref f0) = true)
    (a1 : PySem.W.nsIn K mainGlobals "reckoned" = some (some (.ref f1)))
    (l1 : K.lookup f1 = some ⟨oc1, od1, .func (PySem.W.fnOf "reckoned" "reckoned" (defArgs s_p_reckoned) (defBody s_p_reckoned) (defScope s_p_reckoned) .none kV1 dc1 pm1 an1 cd1 ct1), sl1⟩)
    (c1 : PySem.W.codeIn K cd1 "reckoned" = true)
    (k1 : PySem.W.keepIn K (.ref f1) = true)
    (a2 : PySem.W.nsIn K mainGlobals "is_simple" = some (some (.ref f2)))
    (l2 : K.lookup f2 = some ⟨oc2, od2, .func (PySem.W.fnOf "is_simple" "is_simple" (defArgs s_p_is_simple) (defBody s_p_is_simple) (defScope s_p_is_simple) .none kV2 dc2 pm2 an2 cd2 ct2), sl2⟩)
    (c2 : PySem.W.codeIn K cd2 "is_simple" = true)
    (k2 : PySem.W.keepIn K (.ref f2) = true)
    (a3 : PySem.W.nsIn K mainGlobals "has_tell" = some (some (.ref f3)))
    (l3 : K.lookup f3 = some ⟨oc3, od3, .func (PySem.W.fnOf "has_tell" "has_tell" (defArgs s_p_has_tell) (defBody s_p_has_tell) (defScope s_p_has_tell) .none kV3 dc3 pm3 an3 cd3 ct3), sl3⟩)
    (c3 : PySem.W.codeIn K cd3 "has_tell" = true)
    (k3 : PySem.W.keepIn K (.ref f3) = true)
    (a4 : PySem.W.nsIn K mainGlobals "fold_one" = some (some (.ref f4)))
    (l4 : K.lookup f4 = some ⟨oc4, od4, .func (PySem.W.fnOf "fold_one" "fold_one" (defArgs s_p_fold_one) (defBody s_p_fold_one) (defScope s_p_fold_one) .none kV4 dc4 pm4 an4 cd4 ct4), sl4⟩)
    (c4 : PySem.W.codeIn K cd4 "fold_one" = true)
    (k4 : PySem.W.keepIn K (.ref f4) = true)
    (a5 : PySem.W.nsIn K mainGlobals "fold" = some (some (.ref f5)))
    (l5 : K.lookup f5 = some ⟨oc5, od5, .func (PySem.W.fnOf "fold" "fold" (defArgs s_p_fold) (defBody s_p_fold) (defScope s_p_fold) .none kV5 dc5 pm5 an5 cd5 ct5), sl5⟩)
    (c5 : PySem.W.codeIn K cd5 "fold" = true)
    (k5 : PySem.W.keepIn K (.ref f5) = true)
    (a6 : PySem.W.nsIn K mainGlobals "folded" = some (some (.ref f6)))
    (l6 : K.lookup f6 = some ⟨oc6, od6, .func (PySem.W.fnOf "folded" "folded" (defArgs s_p_folded) (defBody s_p_folded) (defScope s_p_folded) .none kV6 dc6 pm6 an6 cd6 ct6), sl6⟩)
    (c6 : PySem.W.codeIn K cd6 "folded" = true)
    (k6 : PySem.W.keepIn K (.ref f6) = true)
    (a7 : PySem.W.nsIn K mainGlobals "_law_cell_at" = some (some (.ref f7)))
    (l7 : K.lookup f7 = some ⟨oc7, od7, .func (PySem.W.fnOf "_law_cell_at" "_law_cell_at" (defArgs s_law_cell_at) (defBody s_law_cell_at) (defScope s_law_cell_at) .none kV7 dc7 pm7 an7 cd7 ct7), sl7⟩)
    (c7 : PySem.W.codeIn K cd7 "_law_cell_at" = true)
    (k7 : PySem.W.keepIn K (.ref f7) = true)
    (a8 : PySem.W.nsIn K mainGlobals "_law_draws" = some (some (.ref f8)))
    (l8 : K.lookup f8 = some ⟨oc8, od8, .func (PySem.W.fnOf "_law_draws" "_law_draws" (defArgs s_law_draws) (defBody s_law_draws) (defScope s_law_draws) .none kV8 dc8 pm8 an8 cd8 ct8), sl8⟩)
    (c8 : PySem.W.codeIn K cd8 "_law_draws" = true)
    (k8 : PySem.W.keepIn K (.ref f8) = true)
    (a9 : PySem.W.nsIn K mainGlobals "_law_a_tape" = some (some (.ref f9)))
    (l9 : K.lookup f9 = some ⟨oc9, od9, .func (PySem.W.fnOf "_law_a_tape" "_law_a_tape" (defArgs s_law_a_tape) (defBody s_law_a_tape) (defScope s_law_a_tape) .none kV9 dc9 pm9 an9 cd9 ct9), sl9⟩)
    (c9 : PySem.W.codeIn K cd9 "_law_a_tape" = true)
    (k9 : PySem.W.keepIn K (.ref f9) = true)
    (a10 : PySem.W.nsIn K mainGlobals "_law_pick" = some (some (.ref f10)))
    (l10 : K.lookup f10 = some ⟨oc10, od10, .func (PySem.W.fnOf "_law_pick" "_law_pick" (defArgs s_law_pick) (defBody s_law_pick) (defScope s_law_pick) .none kV10 dc10 pm10 an10 cd10 ct10), sl10⟩)
    (c10 : PySem.W.codeIn K cd10 "_law_pick" = true)
    (k10 : PySem.W.keepIn K (.ref f10) = true)
    (a11 : PySem.W.nsIn K mainGlobals "_law_leaf" = some (some (.ref f11)))
    (l11 : K.lookup f11 = some ⟨oc11, od11, .func (PySem.W.fnOf "_law_leaf" "_law_leaf" (defArgs s_law_leaf) (defBody s_law_leaf) (defScope s_law_leaf) .none kV11 dc11 pm11 an11 cd11 ct11), sl11⟩)
    (c11 : PySem.W.codeIn K cd11 "_law_leaf" = true)
    (k11 : PySem.W.keepIn K (.ref f11) = true)
    (a12 : PySem.W.nsIn K mainGlobals "_law_a_plain" = some (some (.ref f12)))
    (l12 : K.lookup f12 = some ⟨oc12, od12, .func (PySem.W.fnOf "_law_a_plain" "_law_a_plain" (defArgs s_law_a_plain) (defBody s_law_a_plain) (defScope s_law_a_plain) .none kV12 dc12 pm12 an12 cd12 ct12), sl12⟩)
    (c12 : PySem.W.codeIn K cd12 "_law_a_plain" = true)
    (k12 : PySem.W.keepIn K (.ref f12) = true)
    (a13 : PySem.W.nsIn K mainGlobals "_law_grown" = some (some (.ref f13)))
    (l13 : K.lookup f13 = some ⟨oc13, od13, .func (PySem.W.fnOf "_law_grown" "_law_grown" (defArgs s_law_grown) (defBody s_law_grown) (defScope s_law_grown) .none kV13 dc13 pm13 an13 cd13 ct13), sl13⟩)
    (c13 : PySem.W.codeIn K cd13 "_law_grown" = true)
    (k13 : PySem.W.keepIn K (.ref f13) = true)
    (a14 : PySem.W.nsIn K mainGlobals "_law_within" = some (some (.ref f14)))
    (l14 : K.lookup f14 = some ⟨oc14, od14, .func (PySem.W.fnOf "_law_within" "_law_within" (defArgs s_law_within) (defBody s_law_within) (defScope s_law_within) .none kV14 dc14 pm14 an14 cd14 ct14), sl14⟩)
    (c14 : PySem.W.codeIn K cd14 "_law_within" = true)
    (k14 : PySem.W.keepIn K (.ref f14) = true)
    (a15 : PySem.W.nsIn K mainGlobals "_law_count" = some (some (.ref f15)))
    (l15 : K.lookup f15 = some ⟨oc15, od15, .func (PySem.W.fnOf "_law_count" "_law_count" (defArgs s_law_count) (defBody s_law_count) (defScope s_law_count) .none kV15 dc15 pm15 an15 cd15 ct15), sl15⟩)
    (c15 : PySem.W.codeIn K cd15 "_law_count" = true)
    (k15 : PySem.W.keepIn K (.ref f15) = true)
    (a16 : PySem.W.nsIn K mainGlobals "_law_a_program" = some (some (.ref f16)))
    (l16 : K.lookup f16 = some ⟨oc16, od16, .func (PySem.W.fnOf "_law_a_program" "_law_a_program" (defArgs s_law_a_program) (defBody s_law_a_program) (defScope s_law_a_program) .none kV16 dc16 pm16 an16 cd16 ct16), sl16⟩)
    (c16 : PySem.W.codeIn K cd16 "_law_a_program" = true)
    (k16 : PySem.W.keepIn K (.ref f16) = true)
    (a17 : PySem.W.nsIn K mainGlobals "_law_whole" = some (some (.ref f17)))
    (l17 : K.lookup f17 = some ⟨oc17, od17, .func (PySem.W.fnOf "_law_whole" "_law_whole" (defArgs s_law_whole) (defBody s_law_whole) (defScope s_law_whole) .none kV17 dc17 pm17 an17 cd17 ct17), sl17⟩)
    (c17 : PySem.W.codeIn K cd17 "_law_whole" = true)
    (k17 : PySem.W.keepIn K (.ref f17) = true)
    (a18 : PySem.W.nsIn K mainGlobals "_law_is_name" = some (some (.ref f18)))
    (l18 : K.lookup f18 = some ⟨oc18, od18, .func (PySem.W.fnOf "_law_is_name" "_law_is_name" (defArgs s_law_is_name) (defBody s_law_is_name) (defScope s_law_is_name) .none kV18 dc18 pm18 an18 cd18 ct18), sl18⟩)
    (c18 : PySem.W.codeIn K cd18 "_law_is_name" = true)
    (k18 : PySem.W.keepIn K (.ref f18) = true)
    (a19 : PySem.W.nsIn K mainGlobals "_law_is_expression" = some (some (.ref f19)))
    (l19 : K.lookup f19 = some ⟨oc19, od19, .func (PySem.W.fnOf "_law_is_expression" "_law_is_expression" (defArgs s_law_is_expression) (defBody s_law_is_expression) (defScope s_law_is_expression) .none kV19 dc19 pm19 an19 cd19 ct19), sl19⟩)
    (c19 : PySem.W.codeIn K cd19 "_law_is_expression" = true)
    (k19 : PySem.W.keepIn K (.ref f19) = true)
    (a20 : PySem.W.nsIn K mainGlobals "_law_operands" = some (some (.ref f20)))
    (l20 : K.lookup f20 = some ⟨oc20, od20, .func (PySem.W.fnOf "_law_operands" "_law_operands" (defArgs s_law_operands) (defBody s_law_operands) (defScope s_law_operands) .none kV20 dc20 pm20 an20 cd20 ct20), sl20⟩)
    (c20 : PySem.W.codeIn K cd20 "_law_operands" = true)
    (k20 : PySem.W.keepIn K (.ref f20) = true)
    (a21 : PySem.W.nsIn K mainGlobals "_law_is_program" = some (some (.ref f21)))
    (l21 : K.lookup f21 = some ⟨oc21, od21, .func (PySem.W.fnOf "_law_is_program" "_law_is_program" (defArgs s_law_is_program) (defBody s_law_is_program) (defScope s_law_is_program) .none kV21 dc21 pm21 an21 cd21 ct21), sl21⟩)
    (c21 : PySem.W.codeIn K cd21 "_law_is_program" = true)
    (k21 : PySem.W.keepIn K (.ref f21) = true)
    (a22 : PySem.W.nsIn K mainGlobals "_law_a_known" = some (some (.ref f22)))
    (l22 : K.lookup f22 = some ⟨oc22, od22, .func (PySem.W.fnOf "_law_a_known" "_law_a_known" (defArgs s_law_a_known) (defBody s_law_a_known) (defScope s_law_a_known) .none kV22 dc22 pm22 an22 cd22 ct22), sl22⟩)
    (c22 : PySem.W.codeIn K cd22 "_law_a_known" = true)
    (k22 : PySem.W.keepIn K (.ref f22) = true)
    (a23 : PySem.W.nsIn K mainGlobals "_law_has_tell" = some (some (.ref f23)))
    (l23 : K.lookup f23 = some ⟨oc23, od23, .func (PySem.W.fnOf "_law_has_tell" "_law_has_tell" (defArgs s_law_has_tell) (defBody s_law_has_tell) (defScope s_law_has_tell) .none kV23 dc23 pm23 an23 cd23 ct23), sl23⟩)
    (c23 : PySem.W.codeIn K cd23 "_law_has_tell" = true)
    (k23 : PySem.W.keepIn K (.ref f23) = true)
    (a24 : PySem.W.nsIn K mainGlobals "_law_folded" = some (some (.ref f24)))
    (l24 : K.lookup f24 = some ⟨oc24, od24, .func (PySem.W.fnOf "_law_folded" "_law_folded" (defArgs s_law_folded) (defBody s_law_folded) (defScope s_law_folded) .none kV24 dc24 pm24 an24 cd24 ct24), sl24⟩)
    (c24 : PySem.W.codeIn K cd24 "_law_folded" = true)
    (k24 : PySem.W.keepIn K (.ref f24) = true)
    (a25 : PySem.W.nsIn K mainGlobals "law" = some (some (.ref f25)))
    (l25 : K.lookup f25 = some ⟨oc25, od25, .func (PySem.W.fnOf "law" "law" (defArgs s_p_law) (defBody s_p_law) (defScope s_p_law) .none kV25 dc25 pm25 an25 cd25 ct25), sl25⟩)
    (c25 : PySem.W.codeIn K cd25 "law" = true)
    (k25 : PySem.W.keepIn K (.ref f25) = true)
    (g_FORMS : PySem.W.nsIn K mainGlobals "FORMS" = some (some (.ref A_FORMS)))
    (d_FORMS : sdW K A_FORMS = some (([("num", "n"), ("name", "x"), ("plus", "ee"), ("less", "ee"), ("if", "eee"), ("let", "xee"), ("read", ""), ("tell", "e"), ("call", "ke"), ("fault", "xe"), ("take", "xe"), ("look", "xxee"), ("way", "wxee"), ("anew", "wte"), ("clean", "pe")] : List (Str × Str)).map fun q : Str × Str => some (q.1, PyData.keyHash w.params q.1, q.2)))
    (z_any : PySem.W.nsIn K mainGlobals "any" = some none)
    (z_bool : PySem.W.nsIn K mainGlobals "bool" = some none)
    (z_int : PySem.W.nsIn K mainGlobals "int" = some none)
    (z_isinstance : PySem.W.nsIn K mainGlobals "isinstance" = some none)
    (z_len : PySem.W.nsIn K mainGlobals "len" = some none)
    (z_max : PySem.W.nsIn K mainGlobals "max" = some none)
    (z_min : PySem.W.nsIn K mainGlobals "min" = some none)
    (z_range : PySem.W.nsIn K mainGlobals "range" = some none)
    (z_str : PySem.W.nsIn K mainGlobals "str" = some none)
    (z_sum : PySem.W.nsIn K mainGlobals "sum" = some none)
    (z_tuple : PySem.W.nsIn K mainGlobals "tuple" = some none)
    (z_zip : PySem.W.nsIn K mainGlobals "zip" = some none)
    (nl : noList K = true)
    : ∃ fd : FuncData, (∀ (s : Shared) (u : Value), BindsTo s fd ⟨[u], []⟩ [("_law_script", u)]) ∧ ∀ base : Heap, K.In base → base.Ns mainGlobals mg → FnOk l.prog w K mg base CX0 (2 * NN) fa fd ["_law_script"] (spLaw 63 K) := by
  have e := hfa.symm.trans (PySem.W.mg_of X G a25)
  cases e
  have F0 := fun_mk (x := "within") (st := s_p_within) l0 c0 k0
  have b0 := F0.binds (ps := ["expression"]) fun _ _ _ _ _ _ us hl => match us, hl with | [_], _ => rfl
  have F1 := fun_mk (x := "reckoned") (st := s_p_reckoned) l1 c1 k1
  have b1 := F1.binds (ps := ["word", "one", "other"]) fun _ _ _ _ _ _ us hl => match us, hl with | [_, _, _], _ => rfl
  have F2 := fun_mk (x := "is_simple") (st := s_p_is_simple) l2 c2 k2
  have b2 := F2.binds (ps := ["expression"]) fun _ _ _ _ _ _ us hl => match us, hl with | [_], _ => rfl
  have F3 := fun_mk (x := "has_tell") (st := s_p_has_tell) l3 c3 k3
  have b3 := F3.binds (ps := ["expression"]) fun _ _ _ _ _ _ us hl => match us, hl with | [_], _ => rfl
  have F4 := fun_mk (x := "fold_one") (st := s_p_fold_one) l4 c4 k4
  have b4 := F4.binds (ps := ["expression"]) fun _ _ _ _ _ _ us hl => match us, hl with | [_], _ => rfl
  have F5 := fun_mk (x := "fold") (st := s_p_fold) l5 c5 k5
  have b5 := F5.binds (ps := ["expression"]) fun _ _ _ _ _ _ us hl => match us, hl with | [_], _ => rfl
  have F6 := fun_mk (x := "folded") (st := s_p_folded) l6 c6 k6
  have b6 := F6.binds (ps := ["program"]) fun _ _ _ _ _ _ us hl => match us, hl with | [_], _ => rfl
  have F7 := fun_mk (x := "_law_cell_at") (st := s_law_cell_at) l7 c7 k7
  have b7 := F7.binds (ps := ["_law_script", "_law_k"]) fun _ _ _ _ _ _ us hl => match us, hl with | [_, _], _ => rfl
  have F8 := fun_mk (x := "_law_draws") (st := s_law_draws) l8 c8 k8
  have b8 := F8.binds (ps := ["_law_cell", "_law_many", "_law_base"]) fun _ _ _ _ _ _ us hl => match us, hl with | [_, _, _], _ => rfl
  have F9 := fun_mk (x := "_law_a_tape") (st := s_law_a_tape) l9 c9 k9
  have b9 := F9.binds (ps := ["_law_script", "_law_at"]) fun _ _ _ _ _ _ us hl => match us, hl with | [_, _], _ => rfl
  have F10 := fun_mk (x := "_law_pick") (st := s_law_pick) l10 c10 k10
  have b10 := F10.binds (ps := ["_law_tape", "_law_many"]) fun _ _ _ _ _ _ us hl => match us, hl with | [_, _], _ => rfl
  have F11 := fun_mk (x := "_law_leaf") (st := s_law_leaf) l11 c11 k11
  have b11 := F11.binds (ps := ["_law_tape", "_law_names"]) fun _ _ _ _ _ _ us hl => match us, hl with | [_, _], _ => rfl
  have F12 := fun_mk (x := "_law_a_plain") (st := s_law_a_plain) l12 c12 k12
  have b12 := F12.binds (ps := ["_law_tape", "_law_names", "_law_deep"]) fun _ _ _ _ _ _ us hl => match us, hl with | [_, _, _], _ => rfl
  have F13 := fun_mk (x := "_law_grown") (st := s_law_grown) l13 c13 k13
  have b13 := F13.binds (ps := ["_law_tape", "_law_names", "_law_body", "_law_deep", "_law_room"]) fun _ _ _ _ _ _ us hl => match us, hl with | [_, _, _, _, _], _ => rfl
  have F14 := fun_mk (x := "_law_within") (st := s_law_within) l14 c14 k14
  have b14 := F14.binds (ps := ["_law_expression"]) fun _ _ _ _ _ _ us hl => match us, hl with | [_], _ => rfl
  have F15 := fun_mk (x := "_law_count") (st := s_law_count) l15 c15 k15
  have b15 := F15.binds (ps := ["_law_expression"]) fun _ _ _ _ _ _ us hl => match us, hl with | [_], _ => rfl
  have F16 := fun_mk (x := "_law_a_program") (st := s_law_a_program) l16 c16 k16
  have b16 := F16.binds (ps := ["_law_script", "_law_at"]) fun _ _ _ _ _ _ us hl => match us, hl with | [_, _], _ => rfl
  have F17 := fun_mk (x := "_law_whole") (st := s_law_whole) l17 c17 k17
  have b17 := F17.binds (ps := ["_law_found"]) fun _ _ _ _ _ _ us hl => match us, hl with | [_], _ => rfl
  have F18 := fun_mk (x := "_law_is_name") (st := s_law_is_name) l18 c18 k18
  have b18 := F18.binds (ps := ["_law_thing"]) fun _ _ _ _ _ _ us hl => match us, hl with | [_], _ => rfl
  have F19 := fun_mk (x := "_law_is_expression") (st := s_law_is_expression) l19 c19 k19
  have b19 := F19.binds (ps := ["_law_thing", "_law_body", "_law_deep", "_law_plain"]) fun _ _ _ _ _ _ us hl => match us, hl with | [_, _, _, _], _ => rfl
  have F20 := fun_mk (x := "_law_operands") (st := s_law_operands) l20 c20 k20
  have b20 := F20.binds (ps := ["_law_form", "_law_parts", "_law_body", "_law_deep", "_law_plain"]) fun _ _ _ _ _ _ us hl => match us, hl with | [_, _, _, _, _], _ => rfl
  have F21 := fun_mk (x := "_law_is_program") (st := s_law_is_program) l21 c21 k21
  have b21 := F21.binds (ps := ["_law_thing"]) fun _ _ _ _ _ _ us hl => match us, hl with | [_], _ => rfl
  have F22 := fun_mk (x := "_law_a_known") (st := s_law_a_known) l22 c22 k22
  have b22 := F22.binds (ps := ["_law_tape", "_law_deep"]) fun _ _ _ _ _ _ us hl => match us, hl with | [_, _], _ => rfl
  have F23 := fun_mk (x := "_law_has_tell") (st := s_law_has_tell) l23 c23 k23
  have b23 := F23.binds (ps := ["_law_e"]) fun _ _ _ _ _ _ us hl => match us, hl with | [_], _ => rfl
  have F24 := fun_mk (x := "_law_folded") (st := s_law_folded) l24 c24 k24
  have b24 := F24.binds (ps := ["_law_e"]) fun _ _ _ _ _ _ us hl => match us, hl with | [_], _ => rfl
  have F25 := fun_mk (x := "law") (st := s_p_law) l25 c25 k25
  have b25 := F25.binds (ps := ["_law_script"]) fun _ _ _ _ _ _ us hl => match us, hl with | [_], _ => rfl
  have F := facts_of (w := w) (K := K) (mg := mg) (gl := gl) (bl := bl) (tbl := tbl) (fas := [(("", "within"), f0), (("", "reckoned"), f1), (("", "is_simple"), f2), (("", "has_tell"), f3), (("", "fold_one"), f4), (("", "fold"), f5), (("", "folded"), f6), (("", "_law_cell_at"), f7), (("", "_law_draws"), f8), (("", "_law_a_tape"), f9), (("", "_law_pick"), f10), (("", "_law_leaf"), f11), (("", "_law_a_plain"), f12), (("", "_law_grown"), f13), (("", "_law_within"), f14), (("", "_law_count"), f15), (("", "_law_a_program"), f16), (("", "_law_whole"), f17), (("", "_law_is_name"), f18), (("", "_law_is_expression"), f19), (("", "_law_operands"), f20), (("", "_law_is_program"), f21), (("", "_law_a_known"), f22), (("", "_law_has_tell"), f23), (("", "_law_folded"), f24), (("", "law"), fa)])
    ⟨⟨f0, _, by kernel_rfl, F0, b0⟩, ⟨f1, _, by kernel_rfl, F1, b1⟩, ⟨f2, _, by kernel_rfl, F2, b2⟩, ⟨f3, _, by kernel_rfl, F3, b3⟩, ⟨f4, _, by kernel_rfl, F4, b4⟩, ⟨f5, _, by kernel_rfl, F5, b5⟩, ⟨f6, _, by kernel_rfl, F6, b6⟩, ⟨f7, _, by kernel_rfl, F7, b7⟩, ⟨f8, _, by kernel_rfl, F8, b8⟩, ⟨f9, _, by kernel_rfl, F9, b9⟩, ⟨f10, _, by kernel_rfl, F10, b10⟩, ⟨f11, _, by kernel_rfl, F11, b11⟩, ⟨f12, _, by kernel_rfl, F12, b12⟩, ⟨f13, _, by kernel_rfl, F13, b13⟩, ⟨f14, _, by kernel_rfl, F14, b14⟩, ⟨f15, _, by kernel_rfl, F15, b15⟩, ⟨f16, _, by kernel_rfl, F16, b16⟩, ⟨f17, _, by kernel_rfl, F17, b17⟩, ⟨f18, _, by kernel_rfl, F18, b18⟩, ⟨f19, _, by kernel_rfl, F19, b19⟩, ⟨f20, _, by kernel_rfl, F20, b20⟩, ⟨f21, _, by kernel_rfl, F21, b21⟩, ⟨f22, _, by kernel_rfl, F22, b22⟩, ⟨f23, _, by kernel_rfl, F23, b23⟩, ⟨f24, _, by kernel_rfl, F24, b24⟩, ⟨fa, _, by kernel_rfl, F25, b25⟩, trivial⟩ oks
    ⟨⟨_, .ref A_FORMS, PySem.W.mg_of X G g_FORMS, rfl, fun H ads => ⟨A_FORMS, rfl, sd_of (W := ⟨K, w, _, _⟩) d_FORMS⟩⟩, ⟨f0, PySem.W.mg_of X G a0, by kernel_rfl, by kernel_rfl⟩, ⟨f1, PySem.W.mg_of X G a1, by kernel_rfl, by kernel_rfl⟩, ⟨f2, PySem.W.mg_of X G a2, by kernel_rfl, by kernel_rfl⟩, ⟨f3, PySem.W.mg_of X G a3, by kernel_rfl, by kernel_rfl⟩, ⟨f4, PySem.W.mg_of X G a4, by kernel_rfl, by kernel_rfl⟩, ⟨f5, PySem.W.mg_of X G a5, by kernel_rfl, by kernel_rfl⟩, ⟨f6, PySem.W.mg_of X G a6, by kernel_rfl, by kernel_rfl⟩, ⟨f7, PySem.W.mg_of X G a7, by kernel_rfl, by kernel_rfl⟩, ⟨f8, PySem.W.mg_of X G a8, by kernel_rfl, by kernel_rfl⟩, ⟨f9, PySem.W.mg_of X G a9, by kernel_rfl, by kernel_rfl⟩, ⟨f10, PySem.W.mg_of X G a10, by kernel_rfl, by kernel_rfl⟩, ⟨f11, PySem.W.mg_of X G a11, by kernel_rfl, by kernel_rfl⟩, ⟨f12, PySem.W.mg_of X G a12, by kernel_rfl, by kernel_rfl⟩, ⟨f13, PySem.W.mg_of X G a13, by kernel_rfl, by kernel_rfl⟩, ⟨f14, PySem.W.mg_of X G a14, by kernel_rfl, by kernel_rfl⟩, ⟨f15, PySem.W.mg_of X G a15, by kernel_rfl, by kernel_rfl⟩, ⟨f16, PySem.W.mg_of X G a16, by kernel_rfl, by kernel_rfl⟩, ⟨f17, PySem.W.mg_of X G a17, by kernel_rfl, by kernel_rfl⟩, ⟨f18, PySem.W.mg_of X G a18, by kernel_rfl, by kernel_rfl⟩, ⟨f19, PySem.W.mg_of X G a19, by kernel_rfl, by kernel_rfl⟩, ⟨f20, PySem.W.mg_of X G a20, by kernel_rfl, by kernel_rfl⟩, ⟨f21, PySem.W.mg_of X G a21, by kernel_rfl, by kernel_rfl⟩, ⟨f22, PySem.W.mg_of X G a22, by kernel_rfl, by kernel_rfl⟩, ⟨f23, PySem.W.mg_of X G a23, by kernel_rfl, by kernel_rfl⟩, ⟨f24, PySem.W.mg_of X G a24, by kernel_rfl, by kernel_rfl⟩, trivial⟩
    ⟨PySem.W.mg_none_of X G z_any, PySem.W.mg_none_of X G z_bool, PySem.W.mg_none_of X G z_int, PySem.W.mg_none_of X G z_isinstance, PySem.W.mg_none_of X G z_len, PySem.W.mg_none_of X G z_max, PySem.W.mg_none_of X G z_min, PySem.W.mg_none_of X G z_range, PySem.W.mg_none_of X G z_str, PySem.W.mg_none_of X G z_sum, PySem.W.mg_none_of X G z_tuple, PySem.W.mg_none_of X G z_zip, trivial⟩
  exact ⟨_, fun s v => .of_eq rfl, fun base _ _ => law_fn (d := d_p_law) F (by kernel_rfl) F25 nl law_true⟩
end K19
end

section
open PySem PySem.W PyProof.Rows Vm in
set_option maxRecDepth 100000 in
set_option maxHeartbeats 0 in
theorem PySem.Challenge.cw_mendways_k19_folded_by_hand_holds : PySem.Challenge.rw_mendways_k19_folded_by_hand.Holds := by
  w_on; o_law; k_head; (case hw => w_witness2)
  k_fill
  refine Vm.walk_law (l := PySem.Challenge.rw_mendways_k19_folded_by_hand) (n := 63) (N := K19.NN) (x := "_law_script") rfl (by decide) rfl ⟨rfl, by decide, by decide⟩ (fun w h Y => PySem.W.kIn_of Y) ?F
  case F =>
    intro w mg fa h KX G hmg
    refine' K19.all_mk KX G hmg ?a0 ?l0 ?c0 ?k0 ?a1 ?l1 ?c1 ?k1 ?a2 ?l2 ?c2 ?k2 ?a3 ?l3 ?c3 ?k3 ?a4 ?l4 ?c4 ?k4 ?a5 ?l5 ?c5 ?k5 ?a6 ?l6 ?c6 ?k6 ?a7 ?l7 ?c7 ?k7 ?a8 ?l8 ?c8 ?k8 ?a9 ?l9 ?c9 ?k9 ?a10 ?l10 ?c10 ?k10 ?a11 ?l11 ?c11 ?k11 ?a12 ?l12 ?c12 ?k12 ?a13 ?l13 ?c13 ?k13 ?a14 ?l14 ?c14 ?k14 ?a15 ?l15 ?c15 ?k15 ?a16 ?l16 ?c16 ?k16 ?a17 ?l17 ?c17 ?k17 ?a18 ?l18 ?c18 ?k18 ?a19 ?l19 ?c19 ?k19 ?a20 ?l20 ?c20 ?k20 ?a21 ?l21 ?c21 ?k21 ?a22 ?l22 ?c22 ?k22 ?a23 ?l23 ?c23 ?k23 ?a24 ?l24 ?c24 ?k24 ?a25 ?l25 ?c25 ?k25 ?g_FORMS ?d_FORMS ?z_any ?z_bool ?z_int ?z_isinstance ?z_len ?z_max ?z_min ?z_range ?z_str ?z_sum ?z_tuple ?z_zip ?nl
    (case a0 => k_is)
    (case l0 => k_is)
    (case c0 => k_is)
    (case k0 => k_is)
    (case a1 => k_is)
    (case l1 => k_is)
    (case c1 => k_is)
    (case k1 => k_is)
    (case a2 => k_is)
    (case l2 => k_is)
    (case c2 => k_is)
    (case k2 => k_is)
    (case a3 => k_is)
    (case l3 => k_is)
    (case c3 => k_is)
    (case k3 => k_is)
    (case a4 => k_is)
    (case l4 => k_is)
    (case c4 => k_is)
    (case k4 => k_is)
    (case a5 => k_is)
    (case l5 => k_is)
    (case c5 => k_is)
    (case k5 => k_is)
    (case a6 => k_is)
    (case l6 => k_is)
    (case c6 => k_is)
    (case k6 => k_is)
    (case a7 => k_is)
    (case l7 => k_is)
    (case c7 => k_is)
    (case k7 => k_is)
    (case a8 => k_is)
    (case l8 => k_is)
    (case c8 => k_is)
    (case k8 => k_is)
    (case a9 => k_is)
    (case l9 => k_is)
    (case c9 => k_is)
    (case k9 => k_is)
    (case a10 => k_is)
    (case l10 => k_is)
    (case c10 => k_is)
    (case k10 => k_is)
    (case a11 => k_is)
    (case l11 => k_is)
    (case c11 => k_is)
    (case k11 => k_is)
    (case a12 => k_is)
    (case l12 => k_is)
    (case c12 => k_is)
    (case k12 => k_is)
    (case a13 => k_is)
    (case l13 => k_is)
    (case c13 => k_is)
    (case k13 => k_is)
    (case a14 => k_is)
    (case l14 => k_is)
    (case c14 => k_is)
    (case k14 => k_is)
    (case a15 => k_is)
    (case l15 => k_is)
    (case c15 => k_is)
    (case k15 => k_is)
    (case a16 => k_is)
    (case l16 => k_is)
    (case c16 => k_is)
    (case k16 => k_is)
    (case a17 => k_is)
    (case l17 => k_is)
    (case c17 => k_is)
    (case k17 => k_is)
    (case a18 => k_is)
    (case l18 => k_is)
    (case c18 => k_is)
    (case k18 => k_is)
    (case a19 => k_is)
    (case l19 => k_is)
    (case c19 => k_is)
    (case k19 => k_is)
    (case a20 => k_is)
    (case l20 => k_is)
    (case c20 => k_is)
    (case k20 => k_is)
    (case a21 => k_is)
    (case l21 => k_is)
    (case c21 => k_is)
    (case k21 => k_is)
    (case a22 => k_is)
    (case l22 => k_is)
    (case c22 => k_is)
    (case k22 => k_is)
    (case a23 => k_is)
    (case l23 => k_is)
    (case c23 => k_is)
    (case k23 => k_is)
    (case a24 => k_is)
    (case l24 => k_is)
    (case c24 => k_is)
    (case k24 => k_is)
    (case a25 => k_is)
    (case l25 => k_is)
    (case c25 => k_is)
    (case k25 => k_is)
    (case g_FORMS => k_is)
    (case d_FORMS => kernel_rfl)
    (case z_any => k_is)
    (case z_bool => k_is)
    (case z_int => k_is)
    (case z_isinstance => k_is)
    (case z_len => k_is)
    (case z_max => k_is)
    (case z_min => k_is)
    (case z_range => k_is)
    (case z_str => k_is)
    (case z_sum => k_is)
    (case z_tuple => k_is)
    (case z_zip => k_is)
    (case nl => kernel_rfl)
end
