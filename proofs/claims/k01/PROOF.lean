import PyProof.Rows.All
import Wide.All
import OpenK.AllK
import Wide.FinOn
import HandS.TupMul
import HandS.TupAny
import HandS.ForMost
import HandS.IsInst
import HandS.Wide
import HandS.Walk
import HandS.Exc
import HandS.TryOnly
import HandS.ExcOwn
import HandS.Style
import HandS.ExcCtx
import HandS.ExcInit
import HandS.Ends
import KE.KExcSuper
import KE.KSuper
import HandS.ExcIs
import HandS.ExcField
import HandS.HotCalls
import HandS.WordsExc
import PySem.Challenge.RW_packetoaths_k01_shapes_and_packets_refus
set_option Elab.async false
set_option maxRecDepth 100000
set_option maxHeartbeats 4000000
/-! Mi0: tuple * int, from 0 on. -/
namespace Mi
open PySem L2 PySem.Spec PyProof.Rows
theorem tup_mulSame (l : Addr) (items : Array Value) (n : Nat) (dd : Option Addr) (sl : Array (Option Value)) (x : Int) (u : Tok) (c0 : (decide (x < -(2 ^ 63)) || decide (x ≥ 2 ^ 63)) = false) (c1 : (items.isEmpty || x == 1) = true) :
    Meets (Builtin.«tuple.__mul__» ⟨[.ref l, .int x u], []⟩) (fun _ R s => s.heap.get? l = some { cls := .type "tuple", dict := dd, data := .seq items n, slots := sl } ∧
      R (.ok (.ret (Value.ref l))) s) :=
  .of_wp fun prog w A R s h => by
    obtain ⟨hp, g, d, tk, os⟩ := s
    obtain ⟨hl, h⟩ := h
    have f1 := AutoSeq1.idx_int
    wp_walk using wpAny_loadPart' hl
    refine wpAny_ite_false (decide_eq_false (by rw [c0]; exact Bool.false_ne_true)) ?_
    wp_walk using wpAny_loadPart' hl
    exact ⟨_, rfl, h⟩
theorem tup_mulNone (l : Addr) (items : Array Value) (n : Nat) (dd : Option Addr) (sl : Array (Option Value)) (x : Int) (u : Tok) (c0 : (decide (x < -(2 ^ 63)) || decide (x ≥ 2 ^ 63)) = false) (c1 : (items.isEmpty || x == 1) = false) (c2 : (decide (x ≤ 0) || items.isEmpty) = true) :
    Meets (Builtin.«tuple.__mul__» ⟨[.ref l, .int x u], []⟩) (fun _ R s => s.heap.get? l = some { cls := .type "tuple", dict := dd, data := .seq items n, slots := sl } ∧
      R (.ok (.ret (Value.ref s.heap.objs.size))) { s with heap := s.heap.push { cls := Value.type "tuple", data := Data.seq #[] }, toks := s.toks }) :=
  .of_wp fun prog w A R s h => by
    obtain ⟨hp, g, d, tk, os⟩ := s
    obtain ⟨hl, h⟩ := h
    have f1 := AutoSeq1.idx_int
    wp_walk using wpAny_loadPart' hl
    refine wpAny_ite_false (decide_eq_false (by rw [c0]; exact Bool.false_ne_true)) ?_
    wp_walk using wpAny_loadPart' hl
    repeat (first
      | (refine wpAny_ite_false (decide_eq_false (by rw [c1]; exact Bool.false_ne_true)) ?_; wp_walk using wpAny_loadPart' hl)
      | (refine wpAny_ite_true (decide_eq_true c2) ?_; wp_walk using wpAny_loadPart' hl))
    all_goals first | exact ⟨_, rfl, h⟩ | (show #[].size ≤ sizeLine; decide)
def rRepA (K : PySem.W.Frag) : R2 := fun x y H Q => ∃ l k xs, x = .ref l ∧ y = .int k ∧ SqT K H l xs ∧ 0 ≤ k ∧ k ≤ 1000 ∧ xs.length ≤ 1000 ∧
  ((xs = [] ∨ k = 1) → Q (.ref l) H) ∧ (xs ≠ [] → k ≠ 1 → ∀ p, H p = none → Q (.ref p) (upd H p (.tup (List.replicate k.toNat xs).flatten)))
theorem op_repA {X : Cx} : OpR X (binaryOp .Mult) (rRepA X.K) := by
  intro pins s σ H x y v u Q I rx ry h
  obtain ⟨l, k, xs, rfl, rfl, hT, h1, h2, hz, q1, q2⟩ := h
  by_cases c : xs ≠ [] ∧ 2 ≤ k
  · exact op_repT pins s σ H _ _ v u Q I rx ry ⟨l, k, xs, rfl, rfl, hT, c.1, c.2, h2, hz, q2 c.1 (by omega)⟩
  cases rx
  obtain ⟨t, rfl⟩ := ry
  obtain ⟨its, r, ⟨⟨cls, dd, data, sl⟩, ho, hc, n, hd⟩, hs⟩ := I.tuple hT
  simp only at hc hd
  subst hc hd
  have hle : its.length = xs.length := r.length.symm
  have hi : its.toArray.isEmpty = xs.isEmpty := by
    cases its with
    | nil => cases xs with
      | nil => rfl
      | cons a b => simp at hle
    | cons a b => cases xs with
      | nil => simp at hle
      | cons _ _ => rfl
  have c0 : (decide (k < -(2 ^ 63)) || decide (k ≥ 2 ^ 63)) = false := by
    rw [decide_eq_false (by omega), decide_eq_false (by omega)] <;> rfl
  by_cases c1 : (xs.isEmpty || k == 1) = true
  · refine wpAny_binaryOp_repeat_ref (T := "tuple") (U := "int") (by decide) ⟨_, ho, rfl⟩ (fun s' => typeIs_int s' k t) noFill_tuple_mul F.fills_int_mul F.slot_int_rmul repeat_tuple F.slot_int_index.lookup
      (call_meets F.slot_int_rmul (typeIs_int s k t) F.entry_int_rmul (F.args_int_rmul_2 _ _) (int_rmul_tuple k t l its.toArray n dd sl)
        ⟨ho, rfl, ⟨_, ho, rfl⟩, call_meets F.slot_tuple_mul ⟨_, ho, rfl⟩ F.entry_tuple_mul (F.args_tuple_mul_2 _ _) (tup_mulSame l its.toArray n dd sl k t c0 (by rw [hi]; exact c1)) ⟨ho, ?_⟩⟩)
    refine ⟨.ref l, H, I, rfl, q1 ?_⟩
    rcases Bool.or_eq_true _ _ ▸ c1 with z | z
    · exact .inl (List.isEmpty_iff.mp z)
    · exact .inr (by simpa using z)
  · have c1' : (xs.isEmpty || k == 1) = false := by simpa using c1
    have hne : xs ≠ [] := fun e => by subst e; simp at c1'
    have hk : k = 0 := by
      have a : ¬ 2 ≤ k := fun z => c ⟨hne, z⟩
      have b : k ≠ 1 := fun z => by subst z; simp at c1'
      omega
    subst hk
    refine wpAny_binaryOp_repeat_ref (T := "tuple") (U := "int") (by decide) ⟨_, ho, rfl⟩ (fun s' => typeIs_int s' 0 t) noFill_tuple_mul F.fills_int_mul F.slot_int_rmul repeat_tuple F.slot_int_index.lookup
      (call_meets F.slot_int_rmul (typeIs_int s 0 t) F.entry_int_rmul (F.args_int_rmul_2 _ _) (int_rmul_tuple 0 t l its.toArray n dd sl)
        ⟨ho, rfl, ⟨_, ho, rfl⟩, call_meets F.slot_tuple_mul ⟨_, ho, rfl⟩ F.entry_tuple_mul (F.args_tuple_mul_2 _ _) (tup_mulNone l its.toArray n dd sl 0 t c0 (by rw [hi]; exact c1') (by simp)) ⟨ho, ?_⟩⟩)
    have q := q2 hne (by omega) s.heap.objs.size (I.hok.fresh (Nat.le_refl _))
    refine ⟨.ref s.heap.objs.size, _, I.laid (t' := s.toks) (o := .tup []) (fun b ob q => Heap.get?_push_of_some _ q) (Nat.le_refl _) ?_, rfl, q⟩
    exact ⟨by decide, [], .nil, IsTup.new _ _⟩
end Mi


set_option Elab.async false
set_option maxRecDepth 100000
/-! Mi1: a small language over plain data, its evaluator, and the translation of the model's syntax into it. -/
namespace Mi
open PySem L2

/-- plain data; st stands for the list of the draws, sub k for its k-th list, scr for the script handed in, exn for the exception that is handled -/
inductive D where
  | non | bl (b : Bool) | int (i : Int) | str (s : Str) | tup (xs : List D) | lst (xs : List D) | st | sub (k : Nat) | scr (ns : List Int) | exn (k : Nat) (fs : List D)
  deriving Inhabited

/-- a place of the list of the draws: a number, or the k-th of its lists -/
inductive Gc where
  | num (i : Int) | at_ (k : Nat)
/-- what the list of the draws holds, and its lists of numbers -/
structure Gs where
  row : List Gc
  ls : List (List Int)

/-- the classes of the package's errors and the fields that they keep -/
def exCls : List (Str × List Str) := [("InvalidShape", ["shape"]), ("InvalidPacket", ["packet"]), ("InvalidNumber", ["number"]), ("InvalidValue", ["value"]), ("InvalidProgram", ["place"]), ("InvalidSource", ["place"]), ("InvalidRules", ["place"]),
  ("InvalidText", ["place"]), ("InvalidLine", ["place"]), ("TooMany", ["what"]), ("Undefined", ["what"]), ("NothingDone", ["what"]), ("Refused", ["what", "packet"])]
def exFs (k : Nat) : List Str := match exCls[k]? with
  | some (_, fs) => fs
  | none => []
def exNm (k : Nat) : Str := match exCls[k]? with
  | some (x, _) => x
  | none => ""
/-- 100 stands for OathError, 101 for ValueError -/
def isSub (c k : Nat) : Bool := c == k || decide (100 ≤ k)
structure Exn where
  cls : Nat
  fs : List D

inductive R (α : Type) where
  | ok (a : α) (g : Gs) | ex (e : Exn) (g : Gs) | no
def R.bind {α β : Type} (r : R α) (f : α → Gs → R β) : R β := match r with
  | .ok a g => f a g
  | .ex e g => .ex e g
  | .no => .no
@[simp] theorem R.bind_ok {α β : Type} (a : α) (g : Gs) (f : α → Gs → R β) : (R.ok a g).bind f = f a g := (rfl)
@[simp] theorem R.bind_ex {α β : Type} (e : Exn) (g : Gs) (f : α → Gs → R β) : (R.ex e g : R α).bind f = .ex e g := (rfl)
@[simp] theorem R.bind_no {α β : Type} (f : α → Gs → R β) : (R.no : R α).bind f = .no := (rfl)
/-- a partial operation on data -/
def R.of {α : Type} (o : Option α) (g : Gs) : R α := match o with
  | some a => .ok a g
  | none => .no
@[simp] theorem R.of_some {α : Type} (a : α) (g : Gs) : R.of (some a) g = .ok a g := (rfl)
@[simp] theorem R.of_none {α : Type} (g : Gs) : (R.of none g : R α) = .no := (rfl)

/-- a slot: a value, or a list that this def alone holds -/
inductive Cell where
  | val (d : D) | own (ds : List D)
abbrev Env := List (Option Cell)
def Env.get (ρ : Env) (i : Nat) : Option Cell := match ρ[i]? with
  | some (some c) => some c
  | _ => none

inductive Op where
  | add | sub | mul | fdiv | mod | pow | shl | shr | band | bor | bxor
inductive Cm where
  | eq | ne | lt | le | gt | ge | isN | notN | mem | nmem
inductive Ty where
  | int | bool | str | list | tuple
inductive BI where
  | len | tuple | list | int | sum | all | any | max2 | min2 | abs | str
inductive Tg where
  | nm (i : Nat) | tup (is : List Nat)

inductive E where
  | nm (i : Nat)
  | lit (d : D)
  | tup (es : List E) | lst (es : List E)
  | op (o : Op) (a b : E)
  | neg (a : E)
  | cmp (o : Cm) (a b : E)
  | chain (o o' : Cm) (a b c : E)
  | and (a b : E) | or (a b : E) | not (a : E)
  | tand (a b : E) | tor (a b : E) | tnot (a : E)
  | ite (t a b : E)
  | ix (a b : E) | sl (a lo hi : E) | rev (a : E) | part (a : E) | pop (a : E)
  | call (f : Nat) (es : List E)
  | bi (b : BI) (es : List E)
  | isi (a : E) (ts : List Ty) (tp : Bool)
  | comp (tg : Tg) (it : E) (cond : E) (own : List Nat) (elt : E)
  | comp2 (tg : Tg) (it : E) (tg2 : Tg) (it2 : E) (own own2 : List Nat) (elt : E)
  | isx (a : E) (k : Nat) | fld (a : E) (f : Str) | lend (is : List Nat) (e : E)
  | iseq (a : E) | irng1 (a : E) | irng2 (a b : E)

/-! ### operations on data -/
def eqF : D → D → Bool
  | .non, .non => true
  | .bl a, .bl b => a == b
  | .bl a, .int b => (if a = true then 1 else 0) == b
  | .int a, .bl b => a == (if b = true then 1 else 0)
  | .int a, .int b => a == b
  | .str a, .str b => a == b
  | _, _ => false
def flatD : D → Bool
  | .non | .bl _ | .int _ | .str _ => true
  | _ => false
mutual
def D.toP : D → Option PyData
  | .non => some .none
  | .bl b => some (.bool b)
  | .int i => some (.int i)
  | .str s => some (.str s)
  | .tup xs => match D.toPs xs with
    | some ps => some (.tuple ps)
    | none => none
  | .lst xs => match D.toPs xs with
    | some ps => some (.list ps)
    | none => none
  | .st => none
  | .sub _ => none
  | .scr _ => none
  | .exn _ _ => none
def D.toPs : List D → Option (List PyData)
  | [] => some []
  | x :: xs => match D.toP x, D.toPs xs with
    | some p, some ps => some (p :: ps)
    | _, _ => none
end
def eqD (d e : D) : Option Bool := match d, e with
  | .int a, .int b => some (a == b)
  | .str a, .str b => some (a == b)
  | .bl a, .bl b => some (a == b)
  | .non, .non => some true
  | d, e => match d.toP, e.toP with
    | some p, some q => if SeqAt.shaped p = true ∧ SeqAt.shaped q = true then some (PyData.eqv p q) else none
    | _, _ => none
def truth : D → Option Bool
  | .non => some false
  | .bl b => some b
  | .int i => some (i != 0)
  | .str s => if s.length ≤ sizeLine then some (((s.length : Nat) : Int) != 0) else none
  | .tup xs => some (!xs.isEmpty)
  | .lst xs => some (!xs.isEmpty)
  | .st => none
  | .sub _ => none
  | .scr _ => none
  | .exn _ _ => none
def smallI (i : Int) : Bool := decide (-(2 ^ 64) < i ∧ i < 2 ^ 64)
def opD : Op → D → D → Option D
  | .add, .int a, .int b => some (.int (a + b))
  | .add, .str a, .str b => if a.length + b.length ≤ sizeLine then some (.str (a ++ b)) else none
  | .add, .tup a, .tup b => if a.length + b.length ≤ sizeLine then some (.tup (a ++ b)) else none
  | .add, .lst a, .lst b => if a.length + b.length ≤ sizeLine then some (.lst (a ++ b)) else none
  | .sub, .int a, .int b => some (.int (a - b))
  | .mul, .int a, .int b => if (smallI a || smallI b) = true then some (.int (a * b)) else none
  | .mul, .lst a, .int k => if -(2 ^ 63) ≤ k ∧ k < 2 ^ 63 ∧ a.length * k.toNat ≤ sizeLine then some (.lst (List.replicate k.toNat a).flatten) else none
  | .mul, .tup a, .int k => if a ≠ [] ∧ 0 ≤ k ∧ k ≤ 1000 ∧ a.length ≤ 1000 then some (.tup (List.replicate k.toNat a).flatten) else none
  | .fdiv, .int a, .int b => if 0 < b ∧ b.natAbs.log2 < 9000 then some (.int (a / b)) else none
  | .mod, .int a, .int b => if 0 < b then some (.int (a % b)) else none
  | .pow, .int a, .int b => if 0 ≤ b ∧ b ≤ 1000000 ∧ a.natAbs < 2 ^ 64 then some (.int (a ^ b.toNat)) else none
  | .shl, .int a, .int b => if 0 ≤ b ∧ b ≤ 1000000 ∧ a.natAbs < 2 ^ 64 then some (.int (a * 2 ^ b.toNat)) else none
  | .shr, .int a, .int b => if 0 ≤ b then some (.int (a / 2 ^ b.toNat)) else none
  | .band, .int a, .int b => some (.int (Builtin.bitAnd a b))
  | .bor, .int a, .int b => some (.int (Builtin.bitOr a b))
  | .bxor, .int a, .int b => some (.int (Builtin.bitXor a b))
  | _, _, _ => none
def inD (x : D) (xs : List D) : Option Bool := if flatD x = true ∧ xs.all flatD = true then some (xs.any fun y => eqF y x) else none
def isNon : D → Bool
  | .non => true
  | _ => false
def cmpD : Cm → D → D → Option Bool
  | .eq, d, e => eqD d e
  | .ne, d, e => (eqD d e).map (!·)
  | .lt, .int a, .int b => some (decide (a < b))
  | .le, .int a, .int b => some (decide (a ≤ b))
  | .gt, .int a, .int b => some (decide (b < a))
  | .ge, .int a, .int b => some (decide (b ≤ a))
  | .isN, d, .non => some (isNon d)
  | .notN, d, .non => some (!isNon d)
  | .mem, d, .tup xs => inD d xs
  | .mem, d, .lst xs => inD d xs
  | .nmem, d, .tup xs => (inD d xs).map (!·)
  | .nmem, d, .lst xs => (inD d xs).map (!·)
  | _, _, _ => none
def strAt (z : Str) (i : Int) : Option D := if z.length ≤ sizeLine then (atI z.cps.toList i).map fun c => .str ⟨#[c]⟩ else none
def ixD : D → D → Option D
  | .tup xs, .int i => atI xs i
  | .lst xs, .int i => atI xs i
  | .str z, .int i => strAt z i
  | .scr ns, .int i => (atI ns i).map .int
  | _, _ => none
/-- a subscript, of the draws' list too -/
def ixG (g : Gs) : D → D → Option D
  | .st, .int j => match atI g.row j with
    | some (.num i) => some (.int i)
    | some (.at_ k) => if k < g.ls.length then some (.sub k) else none
    | none => none
  | .sub k, .int j => match g.ls[k]? with
    | some l => (atI l j).map .int
    | none => none
  | x, y => ixD x y
/-- a place of the draws' list is set -/
def setG (g : Gs) : D → D → D → Option Gs
  | .st, .int j, .int v => match ixN g.row.length j with
    | some i => some { g with row := g.row.set i (.num v) }
    | none => none
  | .sub k, .int j, .int v => match g.ls[k]? with
    | some l => match ixN l.length j with
      | some i => some { g with ls := g.ls.set k (l.set i v) }
      | none => none
    | none => none
  | _, _, _ => none
/-- the first one is taken out -/
def popG (g : Gs) : D → Option (Int × Gs)
  | .sub k => match g.ls[k]? with
    | some (v :: r) => some (v, { g with ls := g.ls.set k r })
    | _ => none
  | _ => none
def appG (g : Gs) : D → D → Option Gs
  | .sub k, .int v => match g.ls[k]? with
    | some l => if l.length < sizeLine then some { g with ls := g.ls.set k (l ++ [v]) } else none
    | none => none
  | _, _ => none
def subOk (g : Gs) : D → Bool
  | .sub k => decide (k < g.ls.length)
  | _ => false
def truthG (g : Gs) : D → Option Bool
  | .sub k => match g.ls[k]? with
    | some l => some (!l.isEmpty)
    | none => none
  | d => truth d
def cutD {α : Type} (xs : List α) (lo hi : Option Int) : List α :=
  List.take (HT.sIx xs.length xs.length hi - HT.sIx xs.length 0 lo) (List.drop (HT.sIx xs.length 0 lo) xs)
def partD : D → Option (Option Int)
  | .non => some none
  | .int i => some (some i)
  | _ => none
def slD (d : D) (lo hi : Option Int) : Option D := match d with
  | .tup xs => some (.tup (cutD xs lo hi))
  | .lst xs => some (.lst (cutD xs lo hi))
  | .scr ns => some (.lst (cutD (ns.map .int) lo hi))
  | _ => none
def intsD : List D → Option (List Int)
  | [] => some []
  | .int i :: r => (intsD r).map (i :: ·)
  | _ => none
def blsD : List D → Option (List Bool)
  | [] => some []
  | .bl i :: r => (blsD r).map (i :: ·)
  | _ => none
/-- str(i) -/
def strI (i : Int) : Str := toString i
def biD : BI → List D → Option D
  | .len, [.tup xs] => some (.int xs.length)
  | .len, [.lst xs] => some (.int xs.length)
  | .len, [.scr ns] => some (.int ns.length)
  | .len, [.str z] => if z.length ≤ sizeLine then some (.int z.length) else none
  | .tuple, [.tup xs] => some (.tup xs)
  | .tuple, [.lst xs] => some (.tup xs)
  | .list, [.tup xs] => some (.lst xs)
  | .list, [.lst xs] => some (.lst xs)
  | .int, [.int i] => some (.int i)
  | .int, [.bl k] => some (.int (if k then 1 else 0))
  | .sum, [.lst xs] => (intsD xs).map fun ns => .int ns.sum
  | .all, [.lst xs] => (blsD xs).map fun bs => .bl (bs.all id)
  | .any, [.lst xs] => (blsD xs).map fun bs => .bl (bs.any id)
  | .max2, [.int i, .int j] => some (.int (if j > i then j else i))
  | .min2, [.int i, .int j] => some (.int (if j < i then j else i))
  | .abs, [.int i] => some (.int (if i < 0 then -i else i))
  | .str, [.int i] => if smallI i = true then some (.str (strI i)) else none
  | _, _ => none
def biS (g : Gs) : BI → List D → Option D
  | .len, [.sub k] => match g.ls[k]? with
    | some l => some (.int l.length)
    | none => none
  | _, _ => none
def biG (g : Gs) (b : BI) (ds : List D) : Option D := match biS g b ds with
  | some r => some r
  | none => biD b ds
def isiTy : D → Option Ty
  | .bl _ => some .bool
  | .int _ => some .int
  | .str _ => some .str
  | .tup _ => some .tuple
  | .lst _ => some .list
  | _ => none
def tyOk : Ty → Ty → Bool
  | .int, .int | .bool, .bool | .bool, .int | .str, .str | .list, .list | .tuple, .tuple => true
  | _, _ => false
def isiD (d : D) (ts : List Ty) : Option Bool := match d with
  | .non => some false
  | .st => none
  | .sub _ => none
  | .scr _ => none
  | .exn _ _ => none
  | d => (isiTy d).map fun t => ts.any fun u => tyOk t u
mutual
/-- no exception within -/
def D.noX : D → Bool
  | .tup xs => D.noXs xs
  | .lst xs => D.noXs xs
  | .exn _ _ => false
  | _ => true
def D.noXs : List D → Bool
  | [] => true
  | x :: xs => D.noX x && D.noXs xs
end
mutual
/-- nothing within that can be changed -/
def D.fast : D → Bool
  | .tup xs => D.fasts xs
  | .lst _ => false
  | .scr _ => false
  | .exn _ _ => false
  | _ => true
def D.fasts : List D → Bool
  | [] => true
  | x :: xs => D.fast x && D.fasts xs
end
def noXc : Option Cell → Bool
  | some (.val d) => d.noX
  | some (.own ds) => D.noXs ds
  | none => true
/-- the slots' lists are held alone no more -/
def freeze (ρ : Env) : List Nat → Env
  | [] => ρ
  | i :: is => match ρ.get i with
    | some (.own ds) => freeze (ρ.set i (some (.val (.lst ds)))) is
    | _ => freeze ρ is
def lent (r : R D) : R D := match r with
  | .ok d g => if d.fast = true then .ok d g else .no
  | _ => .no
/-- a handled exception's field -/
def fldD (d : D) (f : Str) : Option D := match d with
  | .exn k fs => ((exFs k).zip fs).lookup f
  | _ => none
def isxD (d : D) (k : Nat) : Option Bool := match d with
  | .exn c _ => some (isSub c k)
  | _ => none
def setAll : Env → List Nat → List D → Env
  | ρ, i :: is, d :: ds => setAll (ρ.set i (some (.val d))) is ds
  | ρ, _, _ => ρ
def bindTg (ρ : Env) : Tg → D → Option Env
  | .nm i, d => some (ρ.set i (some (.val d)))
  | .tup is, .tup ds => if ds.length = is.length then some (setAll ρ is ds) else none
  | _, _ => none
def wipeE (ρ : Env) : List Nat → Env
  | [] => ρ
  | v :: vs => (wipeE ρ vs).set v none
/-- a borrowed value: a list that is held alone may be read -/
def brw (m : E) (ρ : Env) (g : Gs) (r : R D) : R D := match m with
  | .nm i => match ρ.get i with
    | some (.own ds) => .ok (.lst ds) g
    | _ => r
  | _ => r
def itemsD : D → Option (List D)
  | .tup xs => some xs
  | .lst xs => some xs
  | .scr ns => some (ns.map .int)
  | _ => none
def rangeD (lo : Int) (n : Nat) : List D := (List.range n).map fun (k : Nat) => .int (lo + k)
def fits (i : Int) : Bool := decide (-(2 ^ 62) ≤ i ∧ i < 2 ^ 62)
/-- the comprehension's loop -/
def compL {α : Type} (f : D → Gs → R (List α)) : List D → Gs → R (List α)
  | [], g => .ok [] g
  | x :: xs, g => match f x g with
    | .ok o g1 => (compL f xs g1).bind fun r g2 => .ok (o ++ r) g2
    | _ => .no
def oneOrNone (c : Option Bool) (k : R D) (g : Gs) : R (List D) := match c with
  | some true => k.bind fun d g => .ok [d] g
  | some false => .ok [] g
  | none => .no
def sized (r : R (List D)) : R D := match r with
  | .ok xs g => if xs.length ≤ sizeLine then .ok (.lst xs) g else .no
  | _ => .no

abbrev CallF := Nat → List D → Gs → R D
section
variable (c : CallF)
mutual
def ev : E → Env → Gs → R D
  | .nm i, ρ, g => match ρ.get i with
    | some (.val d) => .ok d g
    | _ => .no
  | .lit d, _, g => .ok d g
  | .tup es, ρ, g => (evL es ρ g).bind fun ds g => if ds.length ≤ sizeLine then .ok (.tup ds) g else .no
  | .lst es, ρ, g => (evL es ρ g).bind fun ds g => if ds.length ≤ sizeLine then .ok (.lst ds) g else .no
  | .op o a b, ρ, g => (brw a ρ g (ev a ρ g)).bind fun x g => (brw b ρ g (ev b ρ g)).bind fun y g => R.of (opD o x y) g
  | .neg a, ρ, g => (ev a ρ g).bind fun x g => match x with
    | .int i => .ok (.int (-i)) g
    | _ => .no
  | .cmp o a b, ρ, g => (brw a ρ g (ev a ρ g)).bind fun x g => (brw b ρ g (ev b ρ g)).bind fun y g => (R.of (cmpD o x y) g).bind fun k g => .ok (.bl k) g
  | .chain o o' a b d, ρ, g => (ev a ρ g).bind fun x g => (ev b ρ g).bind fun y g => (R.of (cmpD o x y) g).bind fun k g =>
      if k = true then (ev d ρ g).bind fun z g => (R.of (cmpD o' y z) g).bind fun k' g => .ok (.bl k') g else .ok (.bl false) g
  | .and a b, ρ, g => (ev a ρ g).bind fun x g => match x with
    | .bl true => ev b ρ g
    | .bl false => .ok (.bl false) g
    | _ => .no
  | .or a b, ρ, g => (ev a ρ g).bind fun x g => match x with
    | .bl true => .ok (.bl true) g
    | .bl false => ev b ρ g
    | _ => .no
  | .not a, ρ, g => (ev a ρ g).bind fun x g => match x with
    | .bl k => .ok (.bl (!k)) g
    | _ => .no
  | .tand a b, ρ, g => (brw a ρ g (ev a ρ g)).bind fun x g => match truthG g x with
    | some true => (brw b ρ g (ev b ρ g)).bind fun y g => (R.of (truthG g y) g).bind fun k g => .ok (.bl k) g
    | some false => .ok (.bl false) g
    | none => .no
  | .tor a b, ρ, g => (brw a ρ g (ev a ρ g)).bind fun x g => match truthG g x with
    | some true => .ok (.bl true) g
    | some false => (brw b ρ g (ev b ρ g)).bind fun y g => (R.of (truthG g y) g).bind fun k g => .ok (.bl k) g
    | none => .no
  | .tnot a, ρ, g => (brw a ρ g (ev a ρ g)).bind fun x g => (R.of (truthG g x) g).bind fun k g => .ok (.bl (!k)) g
  | .ite t a b, ρ, g => (brw t ρ g (ev t ρ g)).bind fun x g => match truthG g x with
    | some true => ev a ρ g
    | some false => ev b ρ g
    | none => .no
  | .ix a b, ρ, g => (brw a ρ g (ev a ρ g)).bind fun x g => (ev b ρ g).bind fun y g => R.of (ixG g x y) g
  | .sl a lo hi, ρ, g => (brw a ρ g (ev a ρ g)).bind fun x g => (ev lo ρ g).bind fun l g => match partD l with
    | some l => (ev hi ρ g).bind fun h g => match partD h with
      | some h => R.of (slD x l h) g
      | none => .no
    | none => .no
  | .rev a, ρ, g => (brw a ρ g (ev a ρ g)).bind fun x g => match x with
    | .lst xs => .ok (.lst xs.reverse) g
    | _ => .no
  | .part a, ρ, g => (ev a ρ g).bind fun x g => match x with
    | .int i => .ok (.int i) g
    | _ => .no
  | .pop a, ρ, g => (ev a ρ g).bind fun x g => match popG g x with
    | some (v, g) => .ok (.int v) g
    | none => .no
  | .call f es, ρ, g => (evL es ρ g).bind fun ds g => c f ds g
  | .bi b es, ρ, g => (evB es ρ g).bind fun ds g => R.of (biG g b ds) g
  | .isi a ts _, ρ, g => (brw a ρ g (ev a ρ g)).bind fun x g => (R.of (isiD x ts) g).bind fun k g => .ok (.bl k) g
  | .comp tg it cond own elt, ρ, g => (evI it ρ g).bind fun xs g => sized (compL (fun x g => match bindTg (wipeE ρ own) tg x with
      | some ρ1 => (brw cond ρ1 g (ev cond ρ1 g)).bind fun k g => oneOrNone (truthG g k) (ev elt ρ1 g) g
      | none => .no) xs g)
  | .comp2 tg it tg2 it2 own own2 elt, ρ, g => (evI it ρ g).bind fun xs g => sized (compL (fun x g => match bindTg (wipeE ρ own) tg x with
      | some ρ1 => (evJ it2 ρ1 g).bind fun ys g => compL (fun y g => match bindTg (wipeE ρ1 own2) tg2 y with
        | some ρ2 => (ev elt ρ2 g).bind fun d g => .ok [d] g
        | none => .no) ys g
      | none => .no) xs g)
  | .isx a k, ρ, g => (ev a ρ g).bind fun x g => (R.of (isxD x k) g).bind fun b g => .ok (.bl b) g
  | .fld a f, ρ, g => (ev a ρ g).bind fun x g => R.of (fldD x f) g
  | .lend is e, ρ, g => lent (ev e (freeze ρ is) g)
  | .iseq _, _, _ => .no
  | .irng1 _, _, _ => .no
  | .irng2 _ _, _, _ => .no
def evL : List E → Env → Gs → R (List D)
  | [], _, g => .ok [] g
  | e :: es, ρ, g => (ev e ρ g).bind fun d g => (evL es ρ g).bind fun ds g => .ok (d :: ds) g
def evB : List E → Env → Gs → R (List D)
  | [], _, g => .ok [] g
  | e :: es, ρ, g => (brw e ρ g (ev e ρ g)).bind fun d g => (evB es ρ g).bind fun ds g => .ok (d :: ds) g
def evI : E → Env → Gs → R (List D)
  | .iseq a, ρ, g => (brw a ρ g (ev a ρ g)).bind fun x g => R.of (itemsD x) g
  | .irng1 a, ρ, g => (ev a ρ g).bind fun x g => match x with
    | .int j => if fits j = true then .ok (rangeD 0 j.toNat) g else .no
    | _ => .no
  | .irng2 a b, ρ, g => (ev a ρ g).bind fun x g => (ev b ρ g).bind fun y g => match x, y with
    | .int i, .int j => if (fits i && fits j) = true then .ok (rangeD i (j - i).toNat) g else .no
    | _, _ => .no
  | _, _, _ => .no
/-- what is walked, nothing that is held alone -/
def evJ : E → Env → Gs → R (List D)
  | .iseq a, ρ, g => (ev a ρ g).bind fun x g => R.of (itemsD x) g
  | .irng1 a, ρ, g => (ev a ρ g).bind fun x g => match x with
    | .int j => if fits j = true then .ok (rangeD 0 j.toNat) g else .no
    | _ => .no
  | .irng2 a b, ρ, g => (ev a ρ g).bind fun x g => (ev b ρ g).bind fun y g => match x, y with
    | .int i, .int j => if (fits i && fits j) = true then .ok (rangeD i (j - i).toNat) g else .no
    | _, _ => .no
  | _, _, _ => .no
end
end
end Mi
/-! ### statements -/
namespace Mi
open PySem L2
inductive S where
  | asg (i : Nat) (e : E)
  | asgT (is : List Nat) (e : E)
  | par (i j : Nat) (a b : E)
  | aug (i : Nat) (o : Op) (e : E)
  | app (i : Nat) (e : E)
  | setix (i : Nat) (k e : E)
  | setg (a k e : E)
  | appg (a e : E)
  | expr (e : E)
  | ife (t : E) (a b : List S)
  | forS (tg : Tg) (it : E) (body : List S)
  | whl (fz : List Nat) (t : E) (body : List S)
  | ret (e : E) | retN | brk | cnt | pass
  | fz (is : List Nat) (s : S)
  | tryT (body : List S)
  | raise (k : Nat) (es : List E)
  | tryX (body : List S) (k i : Nat) (h : List S)
  | stuck
inductive SR where
  | nx (ρ : Env) (g : Gs) | rt (d : D) (g : Gs) | bk (ρ : Env) (g : Gs) | ct (ρ : Env) (g : Gs) | ex (e : Exn) (ρ : Env) (g : Gs) | no
def isFr : E → Bool
  | .lst _ | .comp .. | .comp2 .. | .bi .list _ | .op .add _ _ | .op .mul _ _ | .sl .. | .rev _ => true
  | _ => false
def mkCell (fr : Bool) (d : D) : Cell := match fr, d with
  | true, .lst ds => .own ds
  | _, d => .val d
/-- an expression's answer, then a statement -/
def R.st {α : Type} (r : R α) (ρ : Env) (f : α → Gs → SR) : SR := match r with
  | .ok a g => f a g
  | .ex e g => .ex e ρ g
  | .no => .no
@[simp] theorem R.st_ok {α : Type} (a : α) (g : Gs) (ρ : Env) (f : α → Gs → SR) : (R.ok a g).st ρ f = f a g := (rfl)
@[simp] theorem R.st_ex {α : Type} (e : Exn) (g : Gs) (ρ : Env) (f : α → Gs → SR) : (R.ex e g : R α).st ρ f = .ex e ρ g := (rfl)
@[simp] theorem R.st_no {α : Type} (ρ : Env) (f : α → Gs → SR) : (R.no : R α).st ρ f = .no := (rfl)
def SR.seq (r : SR) (f : Env → Gs → SR) : SR := match r with
  | .nx ρ g => f ρ g
  | r => r
@[simp] theorem SR.seq_nx (ρ : Env) (g : Gs) (f : Env → Gs → SR) : (SR.nx ρ g).seq f = f ρ g := (rfl)
@[simp] theorem SR.seq_rt (d : D) (g : Gs) (f : Env → Gs → SR) : (SR.rt d g).seq f = .rt d g := (rfl)
@[simp] theorem SR.seq_bk (ρ : Env) (g : Gs) (f : Env → Gs → SR) : (SR.bk ρ g).seq f = .bk ρ g := (rfl)
@[simp] theorem SR.seq_ct (ρ : Env) (g : Gs) (f : Env → Gs → SR) : (SR.ct ρ g).seq f = .ct ρ g := (rfl)
@[simp] theorem SR.seq_ex (e : Exn) (ρ : Env) (g : Gs) (f : Env → Gs → SR) : (SR.ex e ρ g).seq f = .ex e ρ g := (rfl)
@[simp] theorem SR.seq_no (f : Env → Gs → SR) : SR.no.seq f = .no := (rfl)
/-- what a loop does behind a turn -/
def SR.turn (r : SR) (f : Env → Gs → SR) : SR := match r with
  | .nx ρ g => f ρ g
  | .ct ρ g => f ρ g
  | .bk ρ g => .nx ρ g
  | r => r
@[simp] theorem SR.turn_nx (ρ : Env) (g : Gs) (f : Env → Gs → SR) : (SR.nx ρ g).turn f = f ρ g := (rfl)
@[simp] theorem SR.turn_ct (ρ : Env) (g : Gs) (f : Env → Gs → SR) : (SR.ct ρ g).turn f = f ρ g := (rfl)
@[simp] theorem SR.turn_bk (ρ : Env) (g : Gs) (f : Env → Gs → SR) : (SR.bk ρ g).turn f = .nx ρ g := (rfl)
@[simp] theorem SR.turn_rt (d : D) (g : Gs) (f : Env → Gs → SR) : (SR.rt d g).turn f = .rt d g := (rfl)
@[simp] theorem SR.turn_ex (e : Exn) (ρ : Env) (g : Gs) (f : Env → Gs → SR) : (SR.ex e ρ g).turn f = .ex e ρ g := (rfl)
@[simp] theorem SR.turn_no (f : Env → Gs → SR) : SR.no.turn f = .no := (rfl)
/-- an except clause of the class k, the exception in slot i -/
def SR.caught (r : SR) (k : Nat) (f : Exn → Env → Gs → SR) : SR := match r with
  | .ex e ρ g => if isSub e.cls k = true then f e ρ g else .ex e ρ g
  | r => r
@[simp] theorem SR.caught_ex (e : Exn) (ρ : Env) (g : Gs) (k : Nat) (f : Exn → Env → Gs → SR) : (SR.ex e ρ g).caught k f = if isSub e.cls k = true then f e ρ g else .ex e ρ g := (rfl)
@[simp] theorem SR.caught_nx (ρ : Env) (g : Gs) (k : Nat) (f : Exn → Env → Gs → SR) : (SR.nx ρ g).caught k f = .nx ρ g := (rfl)
@[simp] theorem SR.caught_rt (d : D) (g : Gs) (k : Nat) (f : Exn → Env → Gs → SR) : (SR.rt d g).caught k f = .rt d g := (rfl)
@[simp] theorem SR.caught_bk (ρ : Env) (g : Gs) (k : Nat) (f : Exn → Env → Gs → SR) : (SR.bk ρ g).caught k f = .bk ρ g := (rfl)
@[simp] theorem SR.caught_ct (ρ : Env) (g : Gs) (k : Nat) (f : Exn → Env → Gs → SR) : (SR.ct ρ g).caught k f = .ct ρ g := (rfl)
@[simp] theorem SR.caught_no (k : Nat) (f : Exn → Env → Gs → SR) : SR.no.caught k f = .no := (rfl)
/-- behind the clause: its name goes, the exception is nowhere -/
def gone (ρ : Env) (i : Nat) : Option Env := if (ρ.set i none).all noXc = true then some (ρ.set i none) else none
def SR.out (r : SR) (i : Nat) : SR := match r with
  | .nx ρ g => match gone ρ i with
    | some ρ => .nx ρ g
    | none => .no
  | .bk ρ g => match gone ρ i with
    | some ρ => .bk ρ g
    | none => .no
  | .ct ρ g => match gone ρ i with
    | some ρ => .ct ρ g
    | none => .no
  | .rt d g => if d.noX = true then .rt d g else .no
  | .ex _ _ _ => .no
  | .no => .no
@[simp] theorem SR.out_rt (d : D) (g : Gs) (i : Nat) : (SR.rt d g).out i = if d.noX = true then .rt d g else .no := (rfl)
def forL (step : D → Env → Gs → SR) : List D → Env → Gs → SR
  | [], ρ, g => .nx ρ g
  | x :: xs, ρ, g => (step x ρ g).turn (forL step xs)
def whlL (fz : List Nat) (test : Env → Gs → R D) (body : Env → Gs → SR) : Nat → Env → Gs → SR
  | 0, _, _ => .no
  | n + 1, ρ, g => (test (freeze ρ fz) g).st (freeze ρ fz) fun x g => match truthG g x with
    | some true => (body (freeze ρ fz) g).turn (whlL fz test body n)
    | some false => .nx (freeze ρ fz) g
    | none => .no
/-- more turns than any loop here takes -/
def turns : Nat := 1000000
def onInts (o : Op) (x y : D) : Option D := match x, y with
  | .int a, .int b => opD o (.int a) (.int b)
  | _, _ => none
section
variable (c : CallF)
mutual
def exS : S → Env → Gs → SR
  | .asg i e, ρ, g => (ev c e ρ g).st ρ fun d g => .nx (ρ.set i (some (mkCell (isFr e) d))) g
  | .asgT is e, ρ, g => (ev c e ρ g).st ρ fun d g => match bindTg ρ (.tup is) d with
    | some ρ1 => .nx ρ1 g
    | none => .no
  | .par i j a b, ρ, g => (ev c a ρ g).st ρ fun x g => (ev c b ρ g).st ρ fun y g => .nx ((ρ.set i (some (.val x))).set j (some (.val y))) g
  | .aug i o e, ρ, g => match ρ.get i with
    | some (.val x) => (ev c e ρ g).st ρ fun y g => match onInts o x y with
      | some z => .nx (ρ.set i (some (.val z))) g
      | none => .no
    | _ => .no
  | .app i e, ρ, g => match ρ.get i with
    | some (.own ds) => (ev c e ρ g).st ρ fun y g => if ds.length < sizeLine then .nx (ρ.set i (some (.own (ds ++ [y])))) g else .no
    | _ => .no
  | .setix i k e, ρ, g => (ev c e ρ g).st ρ fun y g => match ρ.get i with
    | some (.own ds) => (ev c k ρ g).st ρ fun z g => match z with
      | .int j => match ixN ds.length j with
        | some j => .nx (ρ.set i (some (.own (ds.set j y)))) g
        | none => .no
      | _ => .no
    | some (.val d) => (ev c k ρ g).st ρ fun z g => match setG g d z y with
      | some g => .nx ρ g
      | none => .no
    | _ => .no
  | .setg a k e, ρ, g => (ev c e ρ g).st ρ fun y g => (ev c a ρ g).st ρ fun x g => (ev c k ρ g).st ρ fun z g => match setG g x z y with
    | some g => .nx ρ g
    | none => .no
  | .appg a e, ρ, g => (ev c a ρ g).st ρ fun x g => if subOk g x = true then (ev c e ρ g).st ρ fun y g => match appG g x y with
    | some g => .nx ρ g
    | none => .no
    else .no
  | .expr e, ρ, g => (ev c e ρ g).st ρ fun _ g => .nx ρ g
  | .ife t a b, ρ, g => (brw t ρ g (ev c t ρ g)).st ρ fun x g => match truthG g x with
    | some true => exL a ρ g
    | some false => exL b ρ g
    | none => .no
  | .forS tg it body, ρ, g => (evJ c it ρ g).st ρ fun xs g => forL (fun x ρ g => match bindTg ρ tg x with
    | some ρ1 => exL body ρ1 g
    | none => .no) xs ρ g
  | .whl fz t body, ρ, g => whlL fz (fun ρ g => brw t ρ g (ev c t ρ g)) (fun ρ g => exL body ρ g) turns ρ g
  | .ret e, ρ, g => (ev c e ρ g).st ρ fun d g => .rt d g
  | .retN, _, g => .rt .non g
  | .brk, ρ, g => .bk ρ g
  | .cnt, ρ, g => .ct ρ g
  | .pass, ρ, g => .nx ρ g
  | .fz is s, ρ, g => exS s (freeze ρ is) g
  | .tryT body, ρ, g => match exL body ρ g with
    | .ex _ _ _ => .no
    | r => r
  | .stuck, _, _ => .no
  | .raise k es, ρ, g => (evL c es ρ g).st ρ fun ds g => if ds.length = (exFs k).length then .ex ⟨k, ds⟩ ρ g else .no
  | .tryX body k i h, ρ, g => (exL body ρ g).caught k fun e ρ g => (exL h (ρ.set i (some (.val (.exn e.cls e.fs)))) g).out i
def exL : List S → Env → Gs → SR
  | [], ρ, g => .nx ρ g
  | s :: ss, ρ, g => (exS s ρ g).seq fun ρ g => exL ss ρ g
end
end
/-- a def: how many parameters, how many slots, its body; or one that is walked by hand -/
inductive Fn where
  | dfn (ps n : Nat) (body : List S)
  | prm (ps : Nat) (f : List D → Gs → R D)
def Fn.ps : Fn → Nat
  | .dfn ps _ _ => ps
  | .prm ps _ => ps
def envOf (ds : List D) (n : Nat) : Env := ds.map (fun d => some (.val d)) ++ List.replicate (n - ds.length) none
def fin : SR → R D
  | .rt d g => .ok d g
  | .nx _ g => .ok .non g
  | .ex e _ g => .ex e g
  | _ => .no
/-- the call of a def, at most k calls deep -/
def call (T : List Fn) : Nat → CallF
  | 0, _, _, _ => .no
  | k + 1, i, ds, g => match T[i]? with
    | some (.dfn ps n body) => if ds.length = ps then fin (exL (call T k) body (envOf ds n) g) else .no
    | some (.prm ps f) => if ds.length = ps then f ds g else .no
    | none => .no
end Mi

/-! ### the translation -/
namespace Mi
open PySem L2
/-- where one stands: the slots' names, the scope's names, the defs with their arities, the module's numbers -/
structure TC where
  N : List Str
  nm : List (Str × NameKind)
  cel : List Str
  fns : List (Str × Nat)
  con : List (Str × Int)
  fr : List Nat
  /-- the slots that are lent -/
  ln : List Nat
  /-- within an except clause, or in a def that is called there -/
  hot : Bool
  /-- the defs that are called there -/
  hots : List Nat
  /-- the classes that are there -/
  xs : List Nat
def TC.isG (c : TC) (x : Str) : Bool := c.nm.lookup x == some .globalImplicit
/-- a class by its name -/
def TC.cls (c : TC) (x : Str) : Option Nat := if c.isG x = true then (if x = "OathError" then some 100 else if x = "ValueError" then some 101 else match exCls.findIdx? (·.1 == x) with
  | some k => if c.xs.contains k = true then some k else none
  | none => none) else none
def TC.slot (c : TC) (x : Str) : Option Nat := match c.nm.lookup x with
  | some .local | some .cell | some .free => if (x == ("__debug__" : Str)) = false ∧ (x == ("__classdict__" : Str)) = false then c.N.findIdx? (· == x) else none
  | _ => none
def TC.tgt (c : TC) (x : Str) : Option Nat := match c.nm.lookup x with
  | some .local => c.N.findIdx? (· == x)
  | some .cell => if c.cel.contains x = true then c.N.findIdx? (· == x) else none
  | _ => none
/-- a slot that no block sees -/
def TC.tgl (c : TC) (x : Str) : Option Nat := match c.nm.lookup x with
  | some .local => c.N.findIdx? (· == x)
  | _ => none
def isNeg1 : Expr → Bool
  | .UnaryOp .USub (.Constant (.int 1) _ _) _ => true
  | _ => false
def trK : Const → Option D
  | .none => some .non
  | .bool b => some (.bl b)
  | .int i => some (.int i)
  | .str x => some (.str x)
  | _ => none
def trOp : Operator → Option Op
  | .Add => some .add
  | .Sub => some .sub
  | .Mult => some .mul
  | .FloorDiv => some .fdiv
  | .Mod => some .mod
  | .Pow => some .pow
  | .LShift => some .shl
  | .RShift => some .shr
  | .BitAnd => some .band
  | .BitOr => some .bor
  | .BitXor => some .bxor
  | _ => none
def trCm : CmpOp → Cm
  | .Eq => .eq
  | .NotEq => .ne
  | .Lt => .lt
  | .LtE => .le
  | .Gt => .gt
  | .GtE => .ge
  | .Is => .isN
  | .IsNot => .notN
  | .In => .mem
  | .NotIn => .nmem
def trTy (x : Str) : Option Ty :=
  if x = "int" then some .int else if x = "bool" then some .bool else if x = "str" then some .str
  else if x = "list" then some .list else if x = "tuple" then some .tuple else none
def trTys (c : TC) : List Expr → Option (List Ty)
  | [] => some []
  | .Name x _ :: r => if c.isG x = true then match trTy x, trTys c r with
    | some t, some ts => some (t :: ts)
    | _, _ => none else none
  | _ => none
def biOf (x : Str) (n : Nat) : Option BI :=
  if x = "len" then (if n = 1 then some .len else none) else if x = "tuple" then (if n = 1 then some .tuple else none)
  else if x = "list" then (if n = 1 then some .list else none) else if x = "int" then (if n = 1 then some .int else none)
  else if x = "sum" then (if n = 1 then some .sum else none) else if x = "all" then (if n = 1 then some .all else none)
  else if x = "any" then (if n = 1 then some .any else none) else if x = "abs" then (if n = 1 then some .abs else none) else if x = "str" then (if n = 1 then some .str else none)
  else if x = "max" then (if n = 2 then some .max2 else none) else if x = "min" then (if n = 2 then some .min2 else none) else none
def biHot : BI → Bool
  | .sum | .all | .any | .max2 | .min2 => false
  | _ => true
def TC.biOf (c : TC) (x : Str) (n : Nat) : Option BI := match Mi.biOf x n with
  | some b => if c.hot = true ∧ biHot b = false then none else some b
  | none => none
def TC.clsH (c : TC) (x : Str) : Option Nat := if c.hot = true then c.cls x else none
def trTgs (c : TC) : List Expr → Option (List Nat)
  | [] => some []
  | .Name x _ :: r => match c.tgt x, trTgs c r with
    | some i, some is => some (i :: is)
    | _, _ => none
  | _ => none
def trTg (c : TC) : Expr → Option Tg
  | .Name x _ => (c.tgt x).map .nm
  | .Tuple es _ _ => if c.hot = true then none else (trTgs c es).map .tup
  | _ => none
def tgIx : Tg → List Nat
  | .nm i => [i]
  | .tup is => is
def tgIn (own : List Nat) : Tg → Bool
  | .nm i => own.contains i
  | .tup is => is.all own.contains
/-- the block's own names and their slots -/
def ownOf (N : List Str) : List (Str × NameKind) → List (Str × Nat)
  | [] => []
  | (x, k) :: r => if k == .local || k == .cell then match N.findIdx? (· == x) with
    | some i => (x, i) :: ownOf N r
    | none => ownOf N r else ownOf N r
/-- the block's scope as it is seen from within -/
def blkN (sc : Scope) (nm : List (Str × NameKind)) : List (Str × NameKind) :=
  sc.names.map fun (n, k) => if (k == .free && nm.lookup n == some .cell) then (n, .cell) else (n, k)
def TC.blk (c : TC) (sc : Scope) : TC := { c with nm := blkN sc c.nm, cel := (sc.names.filter (·.2 == .cell)).map (·.1) }
def blkOk (c : TC) (sc : Scope) : Bool := blkC c.N { kind := .function, names := c.nm, isGenerator := false, isCoroutine := false } sc (ownOf c.N sc.names)
def isRecv : Expr → Bool
  | .Name _ _ => true
  | .Subscript _ (.Name _ _) _ => true
  | .Subscript _ (.Constant _ _ _) _ => true
  | _ => false
mutual
/-- t: in the place of a test -/
def trE (c : TC) (t : Bool) : Nat → Expr → Option E
  | 0, _ => none
  | n + 1, e => match e with
    | .Name x _ => match c.slot x with
      | some i => some (.nm i)
      | none => if c.isG x = true ∧ (x == ("__debug__" : Str)) = false then (c.con.lookup x).map fun k => .lit (.int k) else none
    | .Constant k _ _ => (trK k).map .lit
    | .Tuple es _ _ => (trL c n es).map .tup
    | .List es _ => (trL c n es).map .lst
    | .BinOp a o b _ => match trOp o, trE c false n a, trE c false n b with
      | some o, some a, some b => some (.op o a b)
      | _, _, _ => none
    | .UnaryOp .USub a _ => (trE c false n a).map .neg
    | .UnaryOp .Not a _ => if t = true then (trE c true n a).map .tnot else (trE c false n a).map .not
    | .BoolOp o es _ => trBo c t n o es
    | .IfExp q a b _ => match trE c true n q, trE c false n a, trE c false n b with
      | some q, some a, some b => if t = true then none else some (.ite q a b)
      | _, _, _ => none
    | .Compare a [o] [b] _ => match trE c false n a, trE c false n b with
      | some ma, some mb => if behindInMarks o b = false then some (.cmp (trCm o) ma mb) else none
      | _, _ => none
    | .Compare a [o, o'] [b, d] _ => match trE c false n a, trE c false n b, trE c false n d with
      | some ma, some mb, some md => if lastMarks [o, o'] [b, d] = false then some (.chain (trCm o) (trCm o') ma mb md) else none
      | _, _, _ => none
    | .Subscript a (.Slice lo hi st _) _ => match st with
      | none => match trE c false n a, trO c n lo, trO c n hi with
        | some a, some l, some h => some (.sl a l h)
        | _, _, _ => none
      | some st => if isNeg1 st = true ∧ lo.isNone = true ∧ hi.isNone = true then (trE c false n a).map .rev else none
    | .Subscript a b _ => match trE c false n a, trE c false n b with
      | some a, some b => some (.ix a b)
      | _, _ => none
    | .Call (.Name f _) es [] _ => if c.isG f = true then match c.fns.findIdx? (·.1 == f) with
        | some i => if es.isEmpty = true ∨ c.hots.contains i ≠ c.hot then none else (trL c n es).map (.call i)
        | none => match es with
          | [a, .Name ty _] => if f = "isinstance" then match c.clsH ty with
              | some k => (trE c false n a).map fun a => .isx a k
              | none => match trE c false n a, trTys c [.Name ty ⟨0, 0, 0, 0⟩] with
                | some a, some ts => some (.isi a ts false)
                | _, _ => none
            else match c.biOf f 2, trL c n es with
              | some b, some es => some (.bi b es)
              | _, _ => none
          | [a, .Tuple tys _ _] => if f = "isinstance" then match trE c false n a, trTys c tys with
              | some a, some ts => if ts.length ≤ 8 then some (.isi a ts true) else none
              | _, _ => none
            else none
          | _ => match c.biOf f es.length, trL c n es with
            | some b, some es => some (.bi b es)
            | _, _ => none
      else none
    | .Call (.Attribute a f apos) [.Constant (.int 0) kk kp] [] cpos => if f = "pop" ∧ (apos.endLine == cpos.line) = true ∧ isRecv a = true then match trE c false n a, trE c false n (.Constant (.int 0) kk kp) with
      | some m, some _ => some (.pop m)
      | _, _ => none
    else none
    | .Attribute a f _ => if c.hot = true ∧ isRecv a = true then (trE c false n a).map fun a => .fld a f else none
    | .ListComp elt [⟨tg, it, ifs, 0⟩] sc _ => if blkOk c sc = true ∧ c.hot = false then match trI c n it, trTg (c.blk sc) tg, trIf (c.blk sc) n ifs, trE (c.blk sc) false n elt with
        | some it, some tg, some q, some elt => if tgIn ((ownOf c.N sc.names).map (·.2)) tg = true then some (.comp tg it q ((ownOf c.N sc.names).map (·.2)) elt) else none
        | _, _, _, _ => none
      else none
    | .ListComp elt [⟨tg, it, [], 0⟩, ⟨tg1, it1, [], 0⟩] sc _ => if blkOk c sc = true ∧ c.hot = false then match trI c n it, trTg (c.blk sc) tg, trI (c.blk sc) n it1, trTg (c.blk sc) tg1, trE (c.blk sc) false n elt with
        | some it, some tg, some it1, some tg1, some elt => if (tgIn ((ownOf c.N sc.names).map (·.2)) tg && tgIn ((ownOf c.N sc.names).map (·.2)) tg1) = true then some (.comp2 tg it tg1 it1 ((ownOf c.N sc.names).map (·.2)) (tgIx tg1) elt) else none
        | _, _, _, _, _ => none
      else none
    | _ => none
def trL (c : TC) : Nat → List Expr → Option (List E)
  | 0, _ => none
  | _ + 1, [] => some []
  | n + 1, e :: es => match trE c false n e, trL c n es with
    | some m, some ms => some (m :: ms)
    | _, _ => none
def trBo (c : TC) (t : Bool) : Nat → BoolOp → List Expr → Option E
  | 0, _, _ => none
  | _ + 1, _, [] => none
  | n + 1, _, [e] => trE c t n e
  | n + 1, o, e :: es => match trE c t n e, trBo c t n o es with
    | some a, some b => match o with
      | .And => some (if t = true then .tand a b else .and a b)
      | .Or => some (if t = true then .tor a b else .or a b)
    | _, _ => none
def trO (c : TC) : Nat → Option Expr → Option E
  | 0, _ => none
  | _ + 1, none => some (.lit .non)
  | n + 1, some e => (trE c false n e).map .part
def trIf (c : TC) : Nat → List Expr → Option E
  | 0, _ => none
  | _ + 1, [] => some (.lit (.bl true))
  | n + 1, [e] => trE c true n e
  | _ + 1, _ => none
def trI (c : TC) : Nat → Expr → Option E
  | 0, _ => none
  | n + 1, e => match e with
    | .Call (.Name f _) [a] [] _ => if c.isG f = true ∧ f = "range" ∧ (c.fns.findIdx? (·.1 == f)).isNone = true then (trE c false n a).map .irng1 else (trE c false n e).map .iseq
    | .Call (.Name f _) [a, b] [] _ => if c.isG f = true ∧ f = "range" ∧ (c.fns.findIdx? (·.1 == f)).isNone = true then match trE c false n a, trE c false n b with
        | some a, some b => some (.irng2 a b)
        | _, _ => none
      else (trE c false n e).map .iseq
    | _ => (trE c false n e).map .iseq
end
end Mi
/-! ### statements -/
namespace Mi
open PySem L2
mutual
/-- the slots whose lists a value may hand on -/
def esc : E → List Nat
  | .nm i => [i]
  | .lit _ => []
  | .tup es => escL es
  | .lst es => escL es
  | .op _ a b => escB a ++ escB b
  | .neg a => esc a
  | .cmp _ a b => escB a ++ escB b
  | .chain _ _ a b d => esc a ++ esc b ++ esc d
  | .and a b => esc a ++ esc b
  | .or a b => esc a ++ esc b
  | .not a => esc a
  | .tand a b => escB a ++ escB b
  | .tor a b => escB a ++ escB b
  | .tnot a => escB a
  | .ite t a b => escB t ++ esc a ++ esc b
  | .ix a b => escB a ++ esc b
  | .sl a l h => escB a ++ esc l ++ esc h
  | .rev a => escB a
  | .part a => esc a
  | .pop a => esc a
  | .call _ es => escL es
  | .bi _ es => escBs es
  | .isi a _ _ => escB a
  | .comp _ it q _ e => esc it ++ escB q ++ esc e
  | .comp2 _ it _ it2 _ _ e => esc it ++ esc it2 ++ esc e
  | .isx a _ => esc a
  | .fld a _ => esc a
  | .lend is e => (esc e).filter fun i => !is.contains i
  | .iseq a => escB a
  | .irng1 a => esc a
  | .irng2 a b => esc a ++ esc b
def escL : List E → List Nat
  | [] => []
  | e :: es => esc e ++ escL es
def escBs : List E → List Nat
  | [] => []
  | e :: es => escB e ++ escBs es
def escB : E → List Nat
  | .nm _ => []
  | .lit _ => []
  | .tup es => escL es
  | .lst es => escL es
  | .op _ a b => escB a ++ escB b
  | .neg a => esc a
  | .cmp _ a b => escB a ++ escB b
  | .chain _ _ a b d => esc a ++ esc b ++ esc d
  | .and a b => esc a ++ esc b
  | .or a b => esc a ++ esc b
  | .not a => esc a
  | .tand a b => escB a ++ escB b
  | .tor a b => escB a ++ escB b
  | .tnot a => escB a
  | .ite t a b => escB t ++ esc a ++ esc b
  | .ix a b => escB a ++ esc b
  | .sl a l h => escB a ++ esc l ++ esc h
  | .rev a => escB a
  | .part a => esc a
  | .pop a => esc a
  | .call _ es => escL es
  | .bi _ es => escBs es
  | .isi a _ _ => escB a
  | .comp _ it q _ e => esc it ++ escB q ++ esc e
  | .comp2 _ it _ it2 _ _ e => esc it ++ esc it2 ++ esc e
  | .isx a _ => esc a
  | .fld a _ => esc a
  | .lend is e => (esc e).filter fun i => !is.contains i
  | .iseq a => escB a
  | .irng1 a => esc a
  | .irng2 a b => esc a ++ esc b
end
def escJ : E → List Nat
  | .iseq a => esc a
  | e => esc e
/-- a call whose lists are lent -/
def TC.lendE (c : TC) (m : E) : E := match m with
  | .call f es => if ((escL es).filter c.ln.contains).isEmpty = true then .call f es else .lend ((escL es).filter c.ln.contains).eraseDups (.call f es)
  | m => m
def TC.frs (c : TC) (l : List Nat) : List Nat := (l.filter c.fr.contains).eraseDups
def TC.wrap (c : TC) (l : List Nat) (s : S) : S := if (c.frs l).isEmpty = true then s else .fz (c.frs l) s
def trAug : Operator → Option Op
  | .Add => some .add
  | .Sub => some .sub
  | .Mult => some .mul
  | _ => none
def isComp : Expr → Bool
  | .ListComp .. => true
  | .SetComp .. => true
  | .DictComp .. => true
  | _ => false
def isTup : Expr → Bool
  | .Tuple .. => true
  | .List .. => true
  | _ => false
mutual
def trS (c : TC) : Nat → Stmt → Option S
  | 0, _ => none
  | n + 1, st => match st with
    | .Assign [.Name x _] e _ => match c.tgt x, trE c false n e with
      | some i, some m => some (if isComp e = true then c.wrap (esc m) (.asg i m) else c.wrap (esc (c.lendE m)) (.asg i (c.lendE m)))
      | _, _ => none
    | .Assign [.Tuple ts _ _] e _ => if isTup e = true ∨ c.hot = true then none else match trTgs c ts, trE c false n e with
      | some is, some m => some (c.wrap (esc m) (.asgT is m))
      | _, _ => none
    | .Assign [.Subscript (.Name x _) k _] e _ => if isComp e = true then none else match c.slot x, trE c false n k, trE c false n e with
      | some i, some mk, some m => some (c.wrap (esc mk ++ esc m) (.setix i mk m))
      | _, _, _ => none
    | .Assign [.Subscript (.Subscript a b p) k _] e _ => if isComp e = true then none else match trE c false n (.Subscript a b p), trE c false n k, trE c false n e with
      | some ma, some mk, some m => some (c.wrap (esc ma ++ esc mk ++ esc m) (.setg ma mk m))
      | _, _, _ => none
    | .Expr (.Call (.Attribute (.Subscript a b p) f apos) [e] [] cpos) _ => if f = "append" ∧ (apos.endLine == cpos.line) = true then match trE c false n (.Subscript a b p), trE c false n e with
        | some ma, some m => some (c.wrap (esc ma ++ esc m) (.appg ma m))
        | _, _ => none
      else if f = "pop" then match trE c false n (.Call (.Attribute (.Subscript a b p) f apos) [e] [] cpos) with
        | some m => some (c.wrap (esc m) (.expr m))
        | none => none
      else none
    | .AugAssign (.Name x _) o e _ => match c.tgt x, trAug o, trE c false n e with
      | some i, some o, some m => some (c.wrap (esc m) (.aug i o m))
      | _, _, _ => none
    | .Expr (.Call (.Attribute (.Name x _) a apos) [e] [] cpos) _ => if a = "append" ∧ (apos.endLine == cpos.line) = true then match c.slot x, trE c false n e with
        | some i, some m => some (c.wrap (esc m) (.app i m))
        | _, _ => none
      else none
    | .Expr (.Call (.Name f p) es ks pos) _ => match trE c false n (.Call (.Name f p) es ks pos) with
      | some m => some (c.wrap (esc m) (.expr m))
      | _ => none
    | .If t a b _ => match trE c true n t, trSs c n a, trSs c n b with
      | some t, some a, some b => some (c.wrap (escB t) (.ife t a b))
      | _, _, _ => none
    | .For tg it body [] _ => if c.hot = true then none else match trTg c tg, trI c n it, trSs c n body with
      | some tg, some it, some body => some (c.wrap (escJ it) (.forS tg it body))
      | _, _, _ => none
    | .While t body [] _ => match trE c true n t, trSs c n body with
      | some t, some body => some (.whl (c.frs (escB t)) t body)
      | _, _ => none
    | .Return (some e) _ => match trE c false n e with
      | some m => some (c.wrap (esc m) (.ret m))
      | _ => none
    | .Return none _ => some .retN
    | .Break _ => some .brk
    | .Continue _ => some .cnt
    | .Pass _ => some .pass
    | .Raise (some (.Call (.Name x _) es [] _)) none _ => if c.hot = true then some .stuck else match c.cls x, trL c n es with
      | some k, some ms => if es.isEmpty = false ∧ es.length = (exFs k).length then some (c.wrap (escL ms) (.raise k ms)) else some .stuck
      | _, _ => some .stuck
    | .Raise _ _ _ => some .stuck
    | .Try body [.ExceptHandler (some (.Name x _)) (some y) (b :: r) _] [] [] _ => if c.hot = true then none else match c.cls x, c.tgl y, trSs c n body, trSs { c with hot := true } n (b :: r) with
      | some k, some i, some mb, some mh => some (.tryX mb k i mh)
      | _, _, some mb, _ => some (.tryT mb)
      | _, _, _, _ => none
    | .Try body (_ :: _) [] [] _ => (trSs c n body).map .tryT
    | _ => none
def trSs (c : TC) : Nat → List Stmt → Option (List S)
  | 0, _ => none
  | _ + 1, [] => some []
  | n + 1, s :: ss => match trS c n s, trSs c n ss with
    | some m, some ms => some (m :: ms)
    | _, _ => none
end
end Mi


set_option Elab.async false
set_option maxRecDepth 100000
/-! Mi2: what stands in the heap for data; the readings of expressions. -/
namespace Mi
open PySem L2
/-- where the list of the draws and its own lists stand -/
structure Fs where
  s : Addr
  ts : List Addr
  /-- whether it stands there yet -/
  on : Bool
  /-- the exception that is handled: where it stands, its class, its dict -/
  er : Option (Addr × Nat × Addr)
/-- where the k-th class stands -/
def clsA (K : PySem.W.Frag) (k : Nat) : Option Addr := match PySem.W.nsIn K mainGlobals (exNm k) with
  | some (some (.ref C)) => some C
  | _ => none
def Fs.has (a : Fs) (b : Addr) : Prop := a.on = true ∧ (b = a.s ∨ b ∈ a.ts)
def gcV (a : Fs) : Gc → V
  | .num i => .int i
  | .at_ k => match a.ts[k]? with
    | some p => .ref p
    | none => .non
mutual
/-- G holds what does not change any more: d stands there at v -/
def Rep (K : PySem.W.Frag) (z : Fs) (G : Hp) : D → V → Prop
  | .non, v => v = .non
  | .bl b, v => v = .bl b
  | .int i, v => v = .int i
  | .str x, v => v = .str x
  | .tup ds, v => ∃ p vs, v = .ref p ∧ SqT K G p vs ∧ Reps K z G ds vs
  | .lst ds, v => ∃ p vs, v = .ref p ∧ G p = some (.lst vs) ∧ Reps K z G ds vs
  | .st, v => v = .ref z.s
  | .sub k, v => ∃ p, z.ts[k]? = some p ∧ v = .ref p
  | .scr ns, v => ∃ p, v = .ref p ∧ SqL K G p (ns.map V.int)
  | .exn k fs, v => ∃ (a dd : Addr) (vs : List V), z.er = some (a, k, dd) ∧ v = .ref a ∧ G dd = some (.xd ((exFs k).zip vs)) ∧ vs.length = (exFs k).length ∧ Reps K z G fs vs
def Reps (K : PySem.W.Frag) (z : Fs) (G : Hp) : List D → List V → Prop
  | [], vs => vs = []
  | d :: ds, vs => ∃ v r, vs = v :: r ∧ Rep K z G d v ∧ Reps K z G ds r
end
structure World (a : Fs) (g : Gs) (G H : Hp) : Prop where
  sub : Same G H
  hs : a.on = true → H a.s = some (.lst (g.row.map (gcV a)))
  hn : a.on = false → g.row = [] ∧ a.ts = []
  ht : ∀ (k : Nat) (p : Addr) (xs : List Int), a.ts[k]? = some p → g.ls[k]? = some xs → H p = some (.lst (xs.map V.int))
  hl : a.ts.length = g.ls.length
  off : ∀ b, a.has b → G b = none
  ns : a.s ∉ a.ts
  nd : a.ts.Nodup
theorem World.hasT {a : Fs} {g : Gs} {G H : Hp} (w : World a g G H) {k : Nat} {p : Addr} (e : a.ts[k]? = some p) : a.has p := by
  refine ⟨?_, .inr (List.mem_of_getElem? e)⟩
  cases q : a.on with
  | true => rfl
  | false =>
    rw [(w.hn q).2] at e
    cases e
theorem World.move {a : Fs} {g : Gs} {G H G' H' : Hp} (w : World a g G H) (h : ∀ b, a.has b → H' b = H b) (s : Same G' H') (o : ∀ b, a.has b → G' b = none) : World a g G' H' :=
  ⟨s, fun q => by rw [h _ ⟨q, .inl rfl⟩]; exact w.hs q, w.hn, fun k p xs e1 e2 => by
    rw [h p (w.hasT e1)]; exact w.ht k p xs e1 e2, w.hl, o, w.ns, w.nd⟩
/-- what an expression does with the heap -/
structure Ext (a : Fs) (G H G' H' : Hp) : Prop where
  gg : Same G G'
  new : ∀ b o, G' b = some o → G b = some o ∨ H b = none
  kp : ∀ b o, H b = some o → ¬ a.has b → H' b = some o
  dm : ∀ b, H' b = none → H b = none
section
variable {a : Fs} {G H G1 H1 G2 H2 : Hp}
theorem Ext.refl : Ext a G H G H := ⟨Same.refl G, fun _ _ h => .inl h, fun _ _ h _ => h, fun _ h => h⟩
theorem Ext.trans (x : Ext a G H G1 H1) (y : Ext a G1 H1 G2 H2) : Ext a G H G2 H2 :=
  ⟨x.gg.trans y.gg, fun b o h => by
    rcases y.new b o h with h | h
    · exact x.new b o h
    · exact .inr (x.dm b h), fun b o h n => y.kp b o (x.kp b o h n) n, fun b h => x.dm b (y.dm b h)⟩
theorem World.there {g : Gs} (w : World a g G H) {b : Addr} (h : a.has b) : ∃ xs, H b = some (.lst xs) := by
  obtain ⟨h0, h⟩ := h
  rcases h with h | h
  · subst h; exact ⟨_, w.hs h0⟩
  · obtain ⟨k, hk, e⟩ := List.getElem_of_mem h
    have e1 : a.ts[k]? = some b := by rw [List.getElem?_eq_getElem hk, e]
    have hk2 : k < g.ls.length := by rw [← w.hl]; exact hk
    exact ⟨_, w.ht k b _ e1 (List.getElem?_eq_getElem hk2)⟩
theorem World.not {g : Gs} (w : World a g G H) {b : Addr} (h : H b = none) : ¬ a.has b := fun q => by
  obtain ⟨xs, e⟩ := w.there q
  rw [h] at e; cases e
theorem World.offH {g : Gs} (w : World a g G H) {b : Addr} {o : HO} (h : G b = some o) : ¬ a.has b := fun q => by
  rw [w.off b q] at h; cases h
theorem upd_none {H : Hp} {p : Addr} {o : HO} {b : Addr} (h : upd H p o b = none) : H b = none := by
  unfold upd at h
  split at h
  · cases h
  · exact h
/-- a new object, known for good -/
theorem Ext.alloc {g : Gs} (w : World a g G H) {p : Addr} {o : HO} (h : H p = none) : Ext a G H (upd G p o) (upd H p o) ∧ World a g (upd G p o) (upd H p o) := by
  have hG : G p = none := w.sub.free h
  have np := w.not h
  have s1 : Same G (upd G p o) := fun b u e => by rw [upd_ne (ne_of_none e hG)]; exact e
  have up : ∀ b, a.has b → b ≠ p := fun b q z => by subst z; exact np q
  refine ⟨⟨s1, fun b u e => ?_, fun b u e _ => by rw [upd_ne (ne_of_none e h)]; exact e, fun b e => upd_none e⟩, w.move (fun b q => upd_ne (up b q)) (fun b u e => ?_) (fun b q => ?_)⟩
  · by_cases hb : b = p
    · subst hb; exact .inr h
    · rw [upd_ne hb] at e; exact .inl e
  · by_cases hb : b = p
    · subst hb; rw [upd_same] at e ⊢; exact e
    · rw [upd_ne hb] at e ⊢; exact w.sub b u e
  · rw [upd_ne (up b q)]; exact w.off b q
/-- a new object, not known for good -/
theorem Ext.fresh {g : Gs} (w : World a g G H) {p : Addr} {o : HO} (h : H p = none) : Ext a G H G (upd H p o) ∧ World a g G (upd H p o) := by
  have hG : G p = none := w.sub.free h
  have np := w.not h
  refine ⟨⟨Same.refl G, fun b u e => .inl e, fun b u e _ => by rw [upd_ne (ne_of_none e h)]; exact e, fun b e => upd_none e⟩, w.move (fun b q => upd_ne fun z => by subst z; exact np q) (fun b u e => ?_) w.off⟩
  rw [upd_ne (ne_of_none e hG)]; exact w.sub b u e
/-- a list that was held alone, known for good from now on -/
theorem Ext.know {g : Gs} (w : World a g G H) {p : Addr} {o : HO} (h : H p = some o) (hG : G p = none) (hn : ¬ a.has p) : World a g (upd G p o) H ∧ Same G (upd G p o) := by
  refine ⟨w.move (fun _ _ => rfl) (fun b u e => ?_) (fun b q => ?_), fun b u e => by rw [upd_ne (ne_of_none e hG)]; exact e⟩
  · by_cases hb : b = p
    · subst hb; rw [upd_same] at e; rw [← e]; exact h
    · rw [upd_ne hb] at e; exact w.sub b u e
  · have hb : b ≠ p := fun z => by subst z; exact hn q
    rw [upd_ne hb]; exact w.off b q
end
theorem SqT.mono {K : PySem.W.Frag} {H H' : Hp} {a : Addr} {xs : List V} (e : Same H H') (h : SqT K H a xs) : SqT K H' a xs := by
  rcases h with (h | ⟨o, h⟩) | h
  · exact .inl (.inl (e _ _ h))
  · exact .inl (.inr ⟨o, e _ _ h⟩)
  · exact .inr h
theorem SqL.mono {K : PySem.W.Frag} {H H' : Hp} {a : Addr} {xs : List V} (e : Same H H') (h : SqL K H a xs) : SqL K H' a xs := by
  rcases h with (h | ⟨o, h⟩) | h
  · exact .inl (.inl (e _ _ h))
  · exact .inl (.inr ⟨o, e _ _ h⟩)
  · exact .inr h
section
variable {K : PySem.W.Frag} {z : Fs} {G G' : Hp}
mutual
theorem Rep.mono (s : Same G G') : ∀ {d : D} {v : V}, Rep K z G d v → Rep K z G' d v
  | .non, _, h => by unfold Rep at h ⊢; exact h
  | .bl _, _, h => by unfold Rep at h ⊢; exact h
  | .int _, _, h => by unfold Rep at h ⊢; exact h
  | .str _, _, h => by unfold Rep at h ⊢; exact h
  | .st, _, h => by unfold Rep at h ⊢; exact h
  | .sub _, _, h => by unfold Rep at h ⊢; exact h
  | .scr _, _, h => by
    unfold Rep at h ⊢
    obtain ⟨p, e, q⟩ := h
    exact ⟨p, e, SqL.mono s q⟩
  | .tup ds, _, h => by
    unfold Rep at h ⊢
    obtain ⟨p, vs, e, q, r⟩ := h
    exact ⟨p, vs, e, SqT.mono s q, Reps.mono s r⟩
  | .lst ds, _, h => by
    unfold Rep at h ⊢
    obtain ⟨p, vs, e, q, r⟩ := h
    exact ⟨p, vs, e, s _ _ q, Reps.mono s r⟩
  | .exn k fs, _, h => by
    unfold Rep at h ⊢
    obtain ⟨a, dd, vs, e1, e2, q, l, r⟩ := h
    exact ⟨a, dd, vs, e1, e2, s _ _ q, l, Reps.mono s r⟩
theorem Reps.mono (s : Same G G') : ∀ {ds : List D} {vs : List V}, Reps K z G ds vs → Reps K z G' ds vs
  | [], _, h => by unfold Reps at h ⊢; exact h
  | d :: ds, _, h => by
    unfold Reps at h ⊢
    obtain ⟨v, r, e, q, t⟩ := h
    exact ⟨v, r, e, Rep.mono s q, Reps.mono s t⟩
end
end
section
variable {K : PySem.W.Frag} {a : Fs} {G : Hp}
/-- no exception is handled: what stands there stands there all the same -/
abbrev Fs.hot (a : Fs) (e : Option (Addr × Nat × Addr)) : Fs := { a with er := e }
mutual
theorem Rep.toHot {e : Option (Addr × Nat × Addr)} (n : a.er = none) : ∀ {d : D} {v : V}, Rep K a G d v → Rep K (a.hot e) G d v
  | .non, _, h => by unfold Rep at h ⊢; exact h
  | .bl _, _, h => by unfold Rep at h ⊢; exact h
  | .int _, _, h => by unfold Rep at h ⊢; exact h
  | .str _, _, h => by unfold Rep at h ⊢; exact h
  | .st, _, h => by unfold Rep at h ⊢; exact h
  | .sub _, _, h => by unfold Rep at h ⊢; exact h
  | .scr _, _, h => by unfold Rep at h ⊢; exact h
  | .tup ds, _, h => by
    unfold Rep at h ⊢
    obtain ⟨p, vs, e, q, r⟩ := h
    exact ⟨p, vs, e, q, Reps.toHot n r⟩
  | .lst ds, _, h => by
    unfold Rep at h ⊢
    obtain ⟨p, vs, e, q, r⟩ := h
    exact ⟨p, vs, e, q, Reps.toHot n r⟩
  | .exn k fs, _, h => by
    unfold Rep at h
    obtain ⟨x, dd, vs, e1, _⟩ := h
    rw [n] at e1
    cases e1
theorem Reps.toHot {e : Option (Addr × Nat × Addr)} (n : a.er = none) : ∀ {ds : List D} {vs : List V}, Reps K a G ds vs → Reps K (a.hot e) G ds vs
  | [], _, h => by unfold Reps at h ⊢; exact h
  | d :: ds, _, h => by
    unfold Reps at h ⊢
    obtain ⟨v, r, e, q, t⟩ := h
    exact ⟨v, r, e, Rep.toHot n q, Reps.toHot n t⟩
end
mutual
theorem Rep.toCold {e : Option (Addr × Nat × Addr)} : ∀ {d : D} {v : V}, d.noX = true → Rep K (a.hot e) G d v → Rep K a G d v
  | .non, _, _, h => by unfold Rep at h ⊢; exact h
  | .bl _, _, _, h => by unfold Rep at h ⊢; exact h
  | .int _, _, _, h => by unfold Rep at h ⊢; exact h
  | .str _, _, _, h => by unfold Rep at h ⊢; exact h
  | .st, _, _, h => by unfold Rep at h ⊢; exact h
  | .sub _, _, _, h => by unfold Rep at h ⊢; exact h
  | .scr _, _, _, h => by unfold Rep at h ⊢; exact h
  | .tup ds, _, n, h => by
    unfold Rep at h ⊢
    unfold D.noX at n
    obtain ⟨p, vs, e, q, r⟩ := h
    exact ⟨p, vs, e, q, Reps.toCold n r⟩
  | .lst ds, _, n, h => by
    unfold Rep at h ⊢
    unfold D.noX at n
    obtain ⟨p, vs, e, q, r⟩ := h
    exact ⟨p, vs, e, q, Reps.toCold n r⟩
  | .exn k fs, _, n, h => by
    unfold D.noX at n
    cases n
theorem Reps.toCold {e : Option (Addr × Nat × Addr)} : ∀ {ds : List D} {vs : List V}, D.noXs ds = true → Reps K (a.hot e) G ds vs → Reps K a G ds vs
  | [], _, _, h => by unfold Reps at h ⊢; exact h
  | d :: ds, _, n, h => by
    unfold Reps at h ⊢
    unfold D.noXs at n
    rw [Bool.and_eq_true] at n
    obtain ⟨v, r, e, q, t⟩ := h
    exact ⟨v, r, e, Rep.toCold n.1 q, Reps.toCold n.2 t⟩
end
/-- what is known for good, less what was lent -/
def less (G : Hp) (P : List Addr) : Hp := fun b => if b ∈ P then none else G b
theorem less_out {P : List Addr} {b : Addr} (h : b ∉ P) : less G P b = G b := if_neg h
theorem less_in {P : List Addr} {b : Addr} (h : b ∈ P) : less G P b = none := if_pos h
theorem less_some {P : List Addr} {b : Addr} {o : HO} (h : less G P b = some o) : b ∉ P ∧ G b = some o := by
  by_cases c : b ∈ P
  · rw [less_in c] at h; cases h
  · rw [less_out c] at h; exact ⟨c, h⟩
mutual
theorem Rep.less {P : List Addr} (l : ∀ p ∈ P, ∃ vs, G p = some (.lst vs)) : ∀ {d : D} {v : V}, d.fast = true → Rep K a G d v → Rep K a (less G P) d v
  | .non, _, _, h => by unfold Rep at h ⊢; exact h
  | .bl _, _, _, h => by unfold Rep at h ⊢; exact h
  | .int _, _, _, h => by unfold Rep at h ⊢; exact h
  | .str _, _, _, h => by unfold Rep at h ⊢; exact h
  | .st, _, _, h => by unfold Rep at h ⊢; exact h
  | .sub _, _, _, h => by unfold Rep at h ⊢; exact h
  | .scr _, _, n, h => by unfold D.fast at n; cases n
  | .exn _ _, _, n, h => by unfold D.fast at n; cases n
  | .lst _, _, n, h => by unfold D.fast at n; cases n
  | .tup ds, _, n, h => by
    unfold Rep at h ⊢
    unfold D.fast at n
    obtain ⟨p, vs, e, q, r⟩ := h
    refine ⟨p, vs, e, ?_, Reps.less l n r⟩
    have out : ∀ {o : HO}, G p = some o → (∀ us, o ≠ .lst us) → Mi.less G P p = some o := fun {o} e ne => by
      rw [less_out fun hm => ?_]
      · exact e
      · obtain ⟨us, e2⟩ := l p hm
        rw [e] at e2
        cases e2
        exact ne _ rfl
    rcases q with (q | ⟨o, q⟩) | q
    · exact .inl (.inl (out q fun us z => by cases z))
    · exact .inl (.inr ⟨o, out q fun us z => by cases z⟩)
    · exact .inr q
theorem Reps.less {P : List Addr} (l : ∀ p ∈ P, ∃ vs, G p = some (.lst vs)) : ∀ {ds : List D} {vs : List V}, D.fasts ds = true → Reps K a G ds vs → Reps K a (less G P) ds vs
  | [], _, _, h => by unfold Reps at h ⊢; exact h
  | d :: ds, _, n, h => by
    unfold Reps at h ⊢
    unfold D.fasts at n
    rw [Bool.and_eq_true] at n
    obtain ⟨v, r, e, q, t⟩ := h
    exact ⟨v, r, e, Rep.less l n.1 q, Reps.less l n.2 t⟩
end
theorem World.toHot {g : Gs} {H : Hp} {e : Option (Addr × Nat × Addr)} (w : World a g G H) : World (a.hot e) g G H := ⟨w.sub, w.hs, w.hn, w.ht, w.hl, w.off, w.ns, w.nd⟩
theorem World.toCold {g : Gs} {H : Hp} {e : Option (Addr × Nat × Addr)} (w : World (a.hot e) g G H) : World a g G H := ⟨w.sub, w.hs, w.hn, w.ht, w.hl, w.off, w.ns, w.nd⟩
theorem Ext.toHot {H G' H' : Hp} {e : Option (Addr × Nat × Addr)} (x : Ext a G H G' H') : Ext (a.hot e) G H G' H' := ⟨x.gg, x.new, x.kp, x.dm⟩
theorem Ext.toCold {H G' H' : Hp} {e : Option (Addr × Nat × Addr)} (x : Ext (a.hot e) G H G' H') : Ext a G H G' H' := ⟨x.gg, x.new, x.kp, x.dm⟩
end
section
variable {K : PySem.W.Frag} {z : Fs} {G G' : Hp}
theorem Reps.nil : Reps K z G [] [] := by unfold Reps; rfl
theorem Reps.cons {d : D} {v : V} {ds : List D} {vs : List V} (h : Rep K z G d v) (r : Reps K z G ds vs) : Reps K z G (d :: ds) (v :: vs) := by
  unfold Reps; exact ⟨v, vs, rfl, h, r⟩
theorem Reps.length : ∀ {ds : List D} {vs : List V}, Reps K z G ds vs → vs.length = ds.length
  | [], _, h => by unfold Reps at h; subst h; rfl
  | d :: ds, _, h => by
    unfold Reps at h
    obtain ⟨v, r, rfl, _, t⟩ := h
    rw [List.length_cons, List.length_cons, Reps.length t]
theorem Reps.get : ∀ {ds : List D} {vs : List V} {i : Nat} {d : D}, Reps K z G ds vs → ds[i]? = some d → ∃ v, vs[i]? = some v ∧ Rep K z G d v
  | [], _, _, _, _, e => by simp at e
  | d :: ds, _, i, x, h, e => by
    unfold Reps at h
    obtain ⟨v, r, rfl, q, t⟩ := h
    cases i with
    | zero => simp at e; subst e; exact ⟨v, rfl, q⟩
    | succ i =>
      obtain ⟨w, h1, h2⟩ := Reps.get (i := i) (d := x) t (by simpa using e)
      exact ⟨w, by simpa using h1, h2⟩
theorem Reps.getV : ∀ {ds : List D} {vs : List V} {i : Nat} {v : V}, Reps K z G ds vs → vs[i]? = some v → ∃ d, ds[i]? = some d ∧ Rep K z G d v := fun {ds vs i v} h e => by
  have hi : i < vs.length := (List.getElem?_eq_some_iff.mp e).1
  rw [h.length] at hi
  obtain ⟨w, h1, h2⟩ := h.get (List.getElem?_eq_getElem hi)
  rw [e] at h1; cases h1
  exact ⟨_, List.getElem?_eq_getElem hi, h2⟩
theorem Reps.append : ∀ {ds es : List D} {vs us : List V}, Reps K z G ds vs → Reps K z G es us → Reps K z G (ds ++ es) (vs ++ us)
  | [], _, _, _, h, k => by unfold Reps at h; subst h; exact k
  | d :: ds, _, _, _, h, k => by
    unfold Reps at h
    obtain ⟨v, r, rfl, q, t⟩ := h
    exact Reps.cons q (Reps.append t k)
theorem Reps.drop : ∀ {ds : List D} {vs : List V} (n : Nat), Reps K z G ds vs → Reps K z G (ds.drop n) (vs.drop n)
  | _, _, 0, h => h
  | [], _, n + 1, h => by unfold Reps at h; subst h; exact Reps.nil
  | d :: ds, _, n + 1, h => by
    unfold Reps at h
    obtain ⟨v, r, rfl, q, t⟩ := h
    exact Reps.drop n t
theorem Reps.take : ∀ {ds : List D} {vs : List V} (n : Nat), Reps K z G ds vs → Reps K z G (ds.take n) (vs.take n)
  | _, _, 0, _ => Reps.nil
  | [], _, n + 1, h => by unfold Reps at h; subst h; exact Reps.nil
  | d :: ds, _, n + 1, h => by
    unfold Reps at h
    obtain ⟨v, r, rfl, q, t⟩ := h
    exact Reps.cons q (Reps.take n t)
theorem Reps.rep : ∀ (n : Nat) {ds : List D} {vs : List V}, Reps K z G ds vs → Reps K z G (List.replicate n ds).flatten (List.replicate n vs).flatten
  | 0, _, _, _ => by simp; exact Reps.nil
  | n + 1, _, _, h => by
    rw [List.replicate_succ, List.replicate_succ, List.flatten_cons, List.flatten_cons]
    exact h.append (Reps.rep n h)
theorem Reps.set : ∀ {ds : List D} {vs : List V} {i : Nat} {d : D} {v : V}, Reps K z G ds vs → Rep K z G d v → Reps K z G (ds.set i d) (vs.set i v)
  | [], _, _, _, _, h, _ => by unfold Reps at h; subst h; exact Reps.nil
  | d :: ds, _, 0, _, _, h, k => by
    unfold Reps at h
    obtain ⟨v, r, rfl, q, t⟩ := h
    exact Reps.cons k t
  | d :: ds, _, i + 1, _, _, h, k => by
    unfold Reps at h
    obtain ⟨v, r, rfl, q, t⟩ := h
    exact Reps.cons q (Reps.set t k)
theorem Reps.reverse : ∀ {ds : List D} {vs : List V}, Reps K z G ds vs → Reps K z G ds.reverse vs.reverse
  | [], _, h => by unfold Reps at h; subst h; exact Reps.nil
  | d :: ds, _, h => by
    unfold Reps at h
    obtain ⟨v, r, rfl, q, t⟩ := h
    rw [List.reverse_cons, List.reverse_cons]
    exact (Reps.reverse t).append (Reps.cons q Reps.nil)
theorem Reps.isEmpty {ds : List D} {vs : List V} (h : Reps K z G ds vs) : vs.isEmpty = ds.isEmpty := by
  have := h.length
  cases ds <;> cases vs <;> simp at this ⊢
theorem Reps.ints : ∀ {ds : List D} {vs : List V} {ns : List Int}, Reps K z G ds vs → intsD ds = some ns → vs = ns.map V.int
  | [], _, _, h, e => by unfold Reps at h; simp [intsD] at e; subst e h; rfl
  | d :: ds, _, ns, h, e => by
    unfold Reps at h
    obtain ⟨v, r, rfl, q, t⟩ := h
    cases d with
    | int i =>
      simp only [intsD, Option.map_eq_some_iff] at e
      obtain ⟨ms, e1, rfl⟩ := e
      unfold Rep at q
      subst q
      rw [List.map_cons, Reps.ints t e1]
    | _ => simp [intsD] at e
theorem Reps.bls : ∀ {ds : List D} {vs : List V} {ns : List Bool}, Reps K z G ds vs → blsD ds = some ns → vs = ns.map V.bl
  | [], _, _, h, e => by unfold Reps at h; simp [blsD] at e; subst e h; rfl
  | d :: ds, _, ns, h, e => by
    unfold Reps at h
    obtain ⟨v, r, rfl, q, t⟩ := h
    cases d with
    | bl i =>
      simp only [blsD, Option.map_eq_some_iff] at e
      obtain ⟨ms, e1, rfl⟩ := e
      unfold Rep at q
      subst q
      rw [List.map_cons, Reps.bls t e1]
    | _ => simp [blsD] at e
theorem Reps.ofInts : ∀ (ns : List Int), Reps K z G (ns.map D.int) (ns.map V.int)
  | [] => Reps.nil
  | n :: ns => Reps.cons (by unfold Rep; rfl) (Reps.ofInts ns)
theorem Rep.inj_int {i : Int} {v : V} (h : Rep K z G (.int i) v) : v = .int i := by unfold Rep at h; exact h
end
end Mi


set_option Elab.async false
set_option maxRecDepth 100000
/-! Mi3: the frame's slots, the readings tE, tB, tF, tT, and how they are put together. -/
namespace Mi
open PySem L2
/-- what stands fixed while a def runs: the written part, the draws' list, the callees, the wish for what is raised, the entry's heap -/
structure Sx where
  K : PySem.W.Frag
  a : Fs
  c : CallF
  W : WX
  H0 : Hp
  G0 : Hp
  /-- the classes of errors that there may be -/
  xs : List Nat
/-- read at the top, known below -/
def RepB (S : Sx) (G H : Hp) (d : D) (v : V) : Prop := match d with
  | .lst ds => ∃ p vs, v = .ref p ∧ H p = some (.lst vs) ∧ ¬ S.a.has p ∧ Reps S.K S.a G ds vs
  | d => Rep S.K S.a G d v
/-- new at the top, known below -/
def RepF (S : Sx) (Hb G H : Hp) (d : D) (v : V) : Prop := match d with
  | .lst ds => ∃ p vs, v = .ref p ∧ H p = some (.lst vs) ∧ ¬ S.a.has p ∧ G p = none ∧ Hb p = none ∧ Reps S.K S.a G ds vs
  | d => Rep S.K S.a G d v
theorem Rep.toB {S : Sx} {g : Gs} {G H : Hp} {d : D} {v : V} (w : World S.a g G H) (h : Rep S.K S.a G d v) : RepB S G H d v := by
  cases d with
  | lst ds =>
    unfold Rep at h
    obtain ⟨p, vs, e, q, r⟩ := h
    exact ⟨p, vs, e, w.sub _ _ q, w.offH q, r⟩
  | _ => exact h
theorem RepF.toB {S : Sx} {Hb G H : Hp} {d : D} {v : V} (h : RepF S Hb G H d v) : RepB S G H d v := by
  cases d with
  | lst ds =>
    obtain ⟨p, vs, e, q, n, _, _, r⟩ := h
    exact ⟨p, vs, e, q, n, r⟩
  | _ => exact h
theorem RepB.ext {S : Sx} {G H G' H' : Hp} {d : D} {v : V} (x : Ext S.a G H G' H') (h : RepB S G H d v) : RepB S G' H' d v := by
  cases d with
  | lst ds =>
    obtain ⟨p, vs, e, q, n, r⟩ := h
    exact ⟨p, vs, e, x.kp _ _ q n, n, r.mono x.gg⟩
  | _ => exact Rep.mono x.gg h
/-- the slots -/
structure Slots (S : Sx) (ρ : Env) (σ : St) (G H : Hp) : Prop where
  len : ρ.length = σ.length
  val : ∀ i d, ρ.get i = some (.val d) → ∃ v, σ[i]? = some (some v) ∧ Rep S.K S.a G d v
  own : ∀ i ds, ρ.get i = some (.own ds) → ∃ p vs, σ[i]? = some (some (.ref p)) ∧ H p = some (.lst vs) ∧ ¬ S.a.has p ∧ G p = none ∧ S.H0 p = none ∧ Reps S.K S.a G ds vs
  sep : ∀ i j ds es, i ≠ j → ρ.get i = some (.own ds) → ρ.get j = some (.own es) → σ[i]? ≠ σ[j]?
theorem Slots.ext {S : Sx} {ρ : Env} {σ : St} {G H G' H' : Hp} (h : Slots S ρ σ G H) (x : Ext S.a G H G' H') : Slots S ρ σ G' H' := by
  refine ⟨h.len, fun i d e => ?_, fun i ds e => ?_, h.sep⟩
  · obtain ⟨v, e1, r⟩ := h.val i d e
    exact ⟨v, e1, r.mono x.gg⟩
  · obtain ⟨p, vs, e1, e2, n, g, h0, r⟩ := h.own i ds e
    refine ⟨p, vs, e1, x.kp _ _ e2 n, n, ?_, h0, r.mono x.gg⟩
    cases q : G' p with
    | none => rfl
    | some o =>
      rcases x.new p o q with z | z
      · rw [g] at z; cases z
      · rw [e2] at z; cases z
/-- an exception of the program: its class by number, its own dict -/
def ExAt (S : Sx) (G : Hp) (e : Exn) (cls : Value) (d : Option Addr) : Prop :=
  ∃ (C dd : Addr) (vs : List V), cls = .ref C ∧ e.cls ∈ S.xs ∧ clsA S.K e.cls = some C ∧ d = some dd ∧ G dd = some (.xd ((exFs e.cls).zip vs)) ∧ vs.length = (exFs e.cls).length ∧ Reps S.K S.a G e.fs vs
def Res {α : Type} (S : Sx) (σ : St) (G H : Hp) (r : R α) (Q : α → Gs → Hp → Hp → Prop) : Prop := match r with
  | .ok x g => ∀ G' H', Ext S.a G H G' H' → World S.a g G' H' → Q x g G' H'
  | .ex e g => ∀ G' H' cls d, Ext S.a G H G' H' → World S.a g G' H' → ExAt S G' e cls d → S.W cls d σ H'
  | .no => False
section
variable {S : Sx} {α β : Type} {σ : St} {G H G1 H1 : Hp} {r : R α} {Q Q' : α → Gs → Hp → Hp → Prop}
theorem Res.shift (x : Ext S.a G H G1 H1) (h : Res S σ G H r Q) : Res S σ G1 H1 r Q := by
  cases r with
  | ok a g => exact fun G' H' y w => h G' H' (x.trans y) w
  | ex e g => exact fun G' H' cls d y w q => h G' H' cls d (x.trans y) w q
  | no => exact h
theorem Res.mono (h : Res S σ G H r Q) (k : ∀ a g G' H', Ext S.a G H G' H' → World S.a g G' H' → Q a g G' H' → Q' a g G' H') : Res S σ G H r Q' := by
  cases r with
  | ok a g => exact fun G' H' y w => k a g G' H' y w (h G' H' y w)
  | ex e g => exact h
  | no => exact h
/-- a first part, then the rest -/
theorem Res.step {f : α → Gs → R β} {Q : β → Gs → Hp → Hp → Prop} {P : α → Gs → Hp → Hp → Prop} (h : Res S σ G H (r.bind f) Q)
    (k : ∀ a g G' H', Ext S.a G H G' H' → World S.a g G' H' → Res S σ G' H' (f a g) Q → P a g G' H') : Res S σ G H r P := by
  cases r with
  | ok a g => exact fun G' H' y w => k a g G' H' y w (Res.shift y h)
  | ex e g => exact h
  | no => exact h
theorem Res.here {a : α} {g : Gs} (w : World S.a g G H) (h : Res S σ G H (.ok a g) Q) : Q a g G H := h G H Ext.refl w
theorem Res.of {o : Option α} {g : Gs} (_w : World S.a g G H) (h : Res S σ G H (R.of o g) Q) : ∃ a, o = some a ∧ ∀ G' H', Ext S.a G H G' H' → World S.a g G' H' → Q a g G' H' := by
  cases o with
  | none => exact h.elim
  | some a => exact ⟨a, rfl, h⟩
end
/-! ### the readings -/
def tE (S : Sx) (m : E) : TE := fun σ H Q => ∃ ρ G g, Slots S ρ σ G H ∧ World S.a g G H ∧ Res S σ G H (ev S.c m ρ g) fun d _ G' H' => ∀ v, Rep S.K S.a G' d v → Q v H'
def tB (S : Sx) (m : E) : TE := fun σ H Q => ∃ ρ G g, Slots S ρ σ G H ∧ World S.a g G H ∧ Res S σ G H (brw m ρ g (ev S.c m ρ g)) fun d _ G' H' => ∀ v, RepB S G' H' d v → Q v H'
def tF (S : Sx) (m : E) : TE := fun σ H Q => ∃ ρ G g, Slots S ρ σ G H ∧ World S.a g G H ∧ Res S σ G H (ev S.c m ρ g) fun d _ G' H' => ∀ v, RepF S H G' H' d v → Q v H'
def tT (S : Sx) (m : E) : TT := fun σ H Q => ∃ ρ G g, Slots S ρ σ G H ∧ World S.a g G H ∧ Res S σ G H (brw m ρ g (ev S.c m ρ g)) fun d g' _ H' => ∃ k, truthG g' d = some k ∧ Q k H'
def tL (S : Sx) (ms : List E) : TA := fun σ H Q => ∃ ρ G g, Slots S ρ σ G H ∧ World S.a g G H ∧ Res S σ G H (evL S.c ms ρ g) fun ds _ G' H' => ∀ vs, Reps S.K S.a G' ds vs → Q vs H'
inductive RepsB (S : Sx) (G H : Hp) : List D → List V → Prop
  | nil : RepsB S G H [] []
  | cons {d : D} {v : V} {ds : List D} {vs : List V} : RepB S G H d v → RepsB S G H ds vs → RepsB S G H (d :: ds) (v :: vs)
def tLB (S : Sx) (ms : List E) : TA := fun σ H Q => ∃ ρ G g, Slots S ρ σ G H ∧ World S.a g G H ∧ Res S σ G H (evB S.c ms ρ g) fun ds _ G' H' => ∀ vs, RepsB S G' H' ds vs → Q vs H'
theorem pe_weak {X : Cx} {e : Expr} {t t' : TE} (h : PE X e t) (k : ∀ σ H Q, t' σ H Q → t σ H Q) : PE X e t' := ⟨fun pins s σ H Q I q => h.run pins s σ H Q I (k σ H Q q)⟩
theorem pt_weak {X : Cx} {e : Expr} {t t' : TT} (h : PT X e t) (k : ∀ σ H Q, t' σ H Q → t σ H Q) : PT X e t' := ⟨fun pins s σ H Q I q => h.run pins s σ H Q I (k σ H Q q)⟩
theorem pw_weak {X : Cx} {e : Expr} {t t' : TT} (h : PW X e t) (k : ∀ σ H Q, t' σ H Q → t σ H Q) : PW X e t' := ⟨fun wh pins s σ H Q I q => h.run wh pins s σ H Q I (k σ H Q q)⟩
theorem pa_weak {X : Cx} {e : List Expr} {t t' : TA} (h : PA X e t) (k : ∀ σ H Q, t' σ H Q → t σ H Q) : PA X e t' := ⟨fun pos pins s σ H Q I q => h.run pos pins s σ H Q I (k σ H Q q)⟩
theorem ps_weak {X : Cx} {e : Stmt} {t t' : TS} (h : PS X e t) (k : ∀ D σ H, t' D σ H → t D σ H) : PS X e t' := ⟨fun pins s σ H Q I q => h.run pins s σ H Q I (k Q σ H q)⟩
theorem pss_weak {X : Cx} {e : List Stmt} {t t' : TS} (h : PSs X e t) (k : ∀ D σ H, t' D σ H → t D σ H) : PSs X e t' := ⟨fun pins s σ H Q I q => h.run pins s σ H Q I (k Q σ H q)⟩
theorem pi_weak {X : Cx} {tg e : Expr} {t t' : TI} (h : PI X tg e t) (k : ∀ σ H Q, t' σ H Q → t σ H Q) : PI X tg e t' := ⟨fun pins s σ H Q I q => h.run pins s σ H Q I (k σ H Q q)⟩
section
variable {S : Sx} {σ : St} {H : Hp} {Q : VK} {m : E} {ρ : Env} {G : Hp} {g : Gs} {β : Type}
/-- an expression ahead, in the place of a known value -/
theorem tE.bind {f : D → Gs → R β} {P : β → Gs → Hp → Hp → Prop} (sl : Slots S ρ σ G H) (w : World S.a g G H) (h : Res S σ G H ((ev S.c m ρ g).bind f) P)
    (k : ∀ d g' G' H' v, Ext S.a G H G' H' → World S.a g' G' H' → Slots S ρ σ G' H' → Rep S.K S.a G' d v → Res S σ G' H' (f d g') P → Q v H') : tE S m σ H Q :=
  ⟨ρ, G, g, sl, w, Res.step h fun d g' G' H' x w' r v q => k d g' G' H' v x w' (sl.ext x) q r⟩
theorem tB.bind {f : D → Gs → R β} {P : β → Gs → Hp → Hp → Prop} (sl : Slots S ρ σ G H) (w : World S.a g G H) (h : Res S σ G H ((brw m ρ g (ev S.c m ρ g)).bind f) P)
    (k : ∀ d g' G' H' v, Ext S.a G H G' H' → World S.a g' G' H' → Slots S ρ σ G' H' → RepB S G' H' d v → Res S σ G' H' (f d g') P → Q v H') : tB S m σ H Q :=
  ⟨ρ, G, g, sl, w, Res.step h fun d g' G' H' x w' r v q => k d g' G' H' v x w' (sl.ext x) q r⟩
theorem tT.bind {f : D → Gs → R β} {P : β → Gs → Hp → Hp → Prop} {Q : Bool → Hp → Prop} (sl : Slots S ρ σ G H) (w : World S.a g G H) (h : Res S σ G H ((brw m ρ g (ev S.c m ρ g)).bind f) P)
    (k : ∀ d g' G' H', Ext S.a G H G' H' → World S.a g' G' H' → Slots S ρ σ G' H' → Res S σ G' H' (f d g') P → ∃ b, truthG g' d = some b ∧ Q b H') : tT S m σ H Q :=
  ⟨ρ, G, g, sl, w, Res.step h fun d g' G' H' x w' r => k d g' G' H' x w' (sl.ext x) r⟩
theorem tL.bind {ms : List E} {f : List D → Gs → R β} {P : β → Gs → Hp → Hp → Prop} {Q : List V → Hp → Prop} (sl : Slots S ρ σ G H) (w : World S.a g G H) (h : Res S σ G H ((evL S.c ms ρ g).bind f) P)
    (k : ∀ d g' G' H' v, Ext S.a G H G' H' → World S.a g' G' H' → Slots S ρ σ G' H' → Reps S.K S.a G' d v → Res S σ G' H' (f d g') P → Q v H') : tL S ms σ H Q :=
  ⟨ρ, G, g, sl, w, Res.step h fun d g' G' H' x w' r v q => k d g' G' H' v x w' (sl.ext x) q r⟩
theorem tLB.bind {ms : List E} {f : List D → Gs → R β} {P : β → Gs → Hp → Hp → Prop} {Q : List V → Hp → Prop} (sl : Slots S ρ σ G H) (w : World S.a g G H) (h : Res S σ G H ((evB S.c ms ρ g).bind f) P)
    (k : ∀ d g' G' H' v, Ext S.a G H G' H' → World S.a g' G' H' → Slots S ρ σ G' H' → RepsB S G' H' d v → Res S σ G' H' (f d g') P → Q v H') : tLB S ms σ H Q :=
  ⟨ρ, G, g, sl, w, Res.step h fun d g' G' H' x w' r v q => k d g' G' H' v x w' (sl.ext x) q r⟩
end
/-- new ones may be known for good -/
theorem tF.toE {S : Sx} {m : E} {σ : St} {H : Hp} {Q : VK} (h : tE S m σ H Q) : tF S m σ H Q := by
  obtain ⟨ρ, G, g, sl, w, r⟩ := h
  refine ⟨ρ, G, g, sl, w, ?_⟩
  revert r
  cases ev S.c m ρ g with
  | no => exact id
  | ex e g => exact id
  | ok d g' =>
    intro r G' H' x w' v q
    cases d with
    | lst ds =>
      obtain ⟨p, vs, e, hp, np, gp, bp, rs⟩ := q
      obtain ⟨w2, s2⟩ := Ext.know w' hp gp np
      refine r _ H' ⟨x.gg.trans s2, fun b o e => ?_, x.kp, x.dm⟩ w2 v ?_
      · by_cases hb : b = p
        · subst hb; exact .inr bp
        · rw [upd_ne hb] at e; exact x.new b o e
      · unfold Rep
        exact ⟨p, vs, e, upd_same, rs.mono s2⟩
    | _ => exact r G' H' x w' v q
theorem pe_ofF {X : Cx} {e : Expr} {S : Sx} {m : E} (h : PE X e (tF S m)) : PE X e (tE S m) := pe_weak h fun _ _ _ => tF.toE
/-- the borrowed reading of what is no slot -/
theorem brw_of {m : E} (h : ∀ i, m ≠ .nm i) (ρ : Env) (g : Gs) (r : R D) : brw m ρ g r = r := by
  cases m with
  | nm i => exact absurd rfl (h i)
  | _ => rfl
theorem pe_toB {X : Cx} {e : Expr} {S : Sx} {m : E} (hm : ∀ i, m ≠ .nm i) (h : PE X e (tE S m)) : PE X e (tB S m) := pe_weak h fun σ H Q ⟨ρ, G, g, sl, w, r⟩ => by
  rw [brw_of hm] at r
  exact ⟨ρ, G, g, sl, w, r.mono fun d g' G' H' x w' q v rv => q v (rv.toB w')⟩
end Mi


set_option Elab.async false
set_option maxRecDepth 100000
set_option maxHeartbeats 2000000
/-! Mi4: operators, comparisons, subscripts, built-ins, by data. -/
namespace Mi
open PySem L2
section
variable {X : Cx} {S : Sx}
def rOpM (S : Sx) (o : Op) : R2 := fun x y H Q => ∃ d e g G z, World S.a g G H ∧ RepB S G H d x ∧ RepB S G H e y ∧ opD o d e = some z ∧
  ∀ G' H' v, Ext S.a G H G' H' → World S.a g G' H' → RepF S H G' H' z v → Q v H'
theorem repB_int {G H : Hp} {i : Int} {v : V} (h : RepB S G H (.int i) v) : v = .int i := by unfold RepB Rep at h; exact h
theorem repB_str {G H : Hp} {i : Str} {v : V} (h : RepB S G H (.str i) v) : v = .str i := by unfold RepB Rep at h; exact h
theorem repB_bl {G H : Hp} {i : Bool} {v : V} (h : RepB S G H (.bl i) v) : v = .bl i := by unfold RepB Rep at h; exact h
theorem repB_non {G H : Hp} {v : V} (h : RepB S G H .non v) : v = .non := by unfold RepB Rep at h; exact h
theorem repB_tup {G H : Hp} {ds : List D} {v : V} (h : RepB S G H (.tup ds) v) : ∃ p vs, v = .ref p ∧ SqT S.K G p vs ∧ Reps S.K S.a G ds vs := by unfold RepB Rep at h; exact h
theorem repB_lst {G H : Hp} {ds : List D} {v : V} (h : RepB S G H (.lst ds) v) : ∃ p vs, v = .ref p ∧ H p = some (.lst vs) ∧ ¬ S.a.has p ∧ Reps S.K S.a G ds vs := by unfold RepB at h; exact h
theorem repF_int {Hb G H : Hp} {i : Int} : RepF S Hb G H (.int i) (.int i) := by unfold RepF Rep; rfl
theorem repF_str {Hb G H : Hp} {i : Str} : RepF S Hb G H (.str i) (.str i) := by unfold RepF Rep; rfl
theorem repF_bl {Hb G H : Hp} {i : Bool} : RepF S Hb G H (.bl i) (.bl i) := by unfold RepF Rep; rfl
/-- a new list at p -/
theorem newL {g : Gs} {G H : Hp} (w : World S.a g G H) {p : Addr} {ds : List D} {vs : List V} (hp : H p = none) (r : Reps S.K S.a G ds vs) :
    Ext S.a G H G (upd H p (.lst vs)) ∧ World S.a g G (upd H p (.lst vs)) ∧ RepF S H G (upd H p (.lst vs)) (.lst ds) (.ref p) := by
  obtain ⟨x, w'⟩ := Ext.fresh (o := .lst vs) w hp
  refine ⟨x, w', ?_⟩
  unfold RepF
  exact ⟨p, vs, rfl, upd_same, w.not hp, w.sub.free hp, hp, r⟩
/-- a new tuple at p -/
theorem newT {g : Gs} {G H : Hp} (w : World S.a g G H) {p : Addr} {ds : List D} {vs : List V} (hp : H p = none) (r : Reps S.K S.a G ds vs) :
    Ext S.a G H (upd G p (.tup vs)) (upd H p (.tup vs)) ∧ World S.a g (upd G p (.tup vs)) (upd H p (.tup vs)) ∧ RepF S H (upd G p (.tup vs)) (upd H p (.tup vs)) (.tup ds) (.ref p) := by
  obtain ⟨x, w'⟩ := Ext.alloc (o := .tup vs) w hp
  refine ⟨x, w', ?_⟩
  unfold RepF Rep
  exact ⟨p, vs, rfl, SqT.of upd_same, r.mono x.gg⟩
theorem smallI_iff {i : Int} (h : smallI i = true) : -(2 ^ 64) < i ∧ i < 2 ^ 64 := by unfold smallI at h; exact of_decide_eq_true h
theorem op_mi (hK : X.K = S.K) {oo : Operator} {o : Op} (ho : trOp oo = some o) : OpR X (binaryOp oo) (rOpM S o) := by
  intro pins s σ H x y v u Q I rx ry h
  obtain ⟨d, e, g, G, z, w, rd, re, hz, k⟩ := h
  have fin : ∀ i : Int, z = .int i → Q (.int i) H := fun i e => k G H _ Ext.refl w (by rw [e]; exact repF_int)
  have twoI : ∀ {i j : Int}, d = .int i → e = .int j → x = .int i ∧ y = .int j := fun {i j} e1 e2 => by
    subst e1 e2
    exact ⟨repB_int rd, repB_int re⟩
  cases oo <;> simp only [trOp, Option.some.injEq, reduceCtorEq] at ho <;> subst ho
  case Add =>
    unfold opD at hz
    split at hz <;> try (simp only [reduceCtorEq] at *; done)
    · cases hz
      obtain ⟨rfl, rfl⟩ := twoI rfl rfl
      exact op_add pins s σ H _ _ v u Q I rx ry ⟨_, _, rfl, rfl, fin _ rfl⟩
    · split at hz
      · rename_i hl
        cases hz
        cases repB_str rd
        cases repB_str re
        exact op_add_str pins s σ H _ _ v u Q I rx ry ⟨_, _, rfl, rfl, hl, k G H _ Ext.refl w repF_str⟩
      · cases hz
    · split at hz
      · rename_i hl
        cases hz
        obtain ⟨p, vs, rfl, q1, r1⟩ := repB_tup rd
        obtain ⟨p', us, rfl, q2, r2⟩ := repB_tup re
        have l1 := r1.length
        have l2 := r2.length
        refine op_catA pins s σ H _ _ v u Q I rx ry ⟨p, p', vs, us, rfl, rfl, hK ▸ SqT.mono w.sub q1, hK ▸ SqT.mono w.sub q2, by omega, fun e1 => ?_, fun e1 e2 => ?_, fun _ _ p2 hp => ?_⟩
        · subst e1
          refine k G H _ Ext.refl w ?_
          unfold RepF Rep
          have e3 := List.eq_nil_of_length_eq_zero (l1.symm.trans rfl)
          rw [e3]
          exact ⟨p', us, rfl, q2, r2⟩
        · subst e2
          refine k G H _ Ext.refl w ?_
          unfold RepF Rep
          have e3 := List.eq_nil_of_length_eq_zero (l2.symm.trans rfl)
          rw [e3, List.append_nil]
          exact ⟨p, vs, rfl, q1, r1⟩
        · obtain ⟨x1, w1, f1⟩ := newT w hp (r1.append r2)
          exact k _ _ _ x1 w1 f1
      · cases hz
    · split at hz
      · rename_i hl
        cases hz
        obtain ⟨p, vs, rfl, q1, n1, r1⟩ := repB_lst rd
        obtain ⟨p', us, rfl, q2, n2, r2⟩ := repB_lst re
        have l1 := r1.length
        have l2 := r2.length
        refine op_cat pins s σ H _ _ v u Q I rx ry ⟨p, p', vs, us, rfl, rfl, q1, q2, by omega, fun p2 hp => ?_⟩
        obtain ⟨x1, w1, f1⟩ := newL w hp (r1.append r2)
        exact k _ _ _ x1 w1 f1
      · cases hz
  case Sub =>
    unfold opD at hz
    split at hz <;> try (simp only [reduceCtorEq] at *; done)
    cases hz
    obtain ⟨rfl, rfl⟩ := twoI rfl rfl
    exact op_sub pins s σ H _ _ v u Q I rx ry ⟨_, _, rfl, rfl, fin _ rfl⟩
  case Mult =>
    unfold opD at hz
    split at hz <;> try (simp only [reduceCtorEq] at *; done)
    · split at hz
      · rename_i hl
        cases hz
        obtain ⟨rfl, rfl⟩ := twoI rfl rfl
        have hc : ∀ a b : Int, (smallI a || smallI b) = true → CMul a b := fun a b h => by
          rcases Bool.or_eq_true _ _ ▸ h with h | h
          · exact .inl (smallI_iff h)
          · exact .inr (smallI_iff h)
        exact op_mul pins s σ H _ _ v u Q I rx ry ⟨_, _, rfl, rfl, hc _ _ hl, fin _ rfl⟩
      · cases hz
    · split at hz
      · rename_i hl
        cases hz
        obtain ⟨p, vs, rfl, q1, n1, r1⟩ := repB_lst rd
        cases repB_int re
        have l1 := r1.length
        refine op_rep pins s σ H _ _ v u Q I rx ry ⟨p, _, vs, rfl, rfl, q1, hl.1, hl.2.1, by rw [l1]; exact hl.2.2, fun p2 hp => ?_⟩
        obtain ⟨x1, w1, f1⟩ := newL w hp (r1.rep _)
        exact k _ _ _ x1 w1 f1
      · cases hz
    · split at hz
      · rename_i hl
        cases hz
        obtain ⟨p, vs, rfl, q1, r1⟩ := repB_tup rd
        cases repB_int re
        have l1 := r1.length
        refine op_repA pins s σ H _ _ v u Q I rx ry ⟨p, _, vs, rfl, rfl, hK ▸ SqT.mono w.sub q1, hl.2.1, hl.2.2.1, by rw [l1]; exact hl.2.2.2, fun e1 => ?_, fun _ _ p2 hp => ?_⟩
        · refine k G H _ Ext.refl w ?_
          unfold RepF Rep
          refine ⟨p, vs, rfl, q1, ?_⟩
          rcases e1 with e1 | e1
          · subst e1
            exact absurd (List.eq_nil_of_length_eq_zero (l1.symm.trans rfl)) hl.1
          · subst e1
            simpa using r1
        · obtain ⟨x1, w1, f1⟩ := newT w hp (r1.rep _)
          exact k _ _ _ x1 w1 f1
      · cases hz
  case Mod =>
    unfold opD at hz
    split at hz <;> try (simp only [reduceCtorEq] at *; done)
    split at hz
    · rename_i hl
      cases hz
      obtain ⟨rfl, rfl⟩ := twoI rfl rfl
      exact op_mod pins s σ H _ _ v u Q I rx ry ⟨_, _, rfl, rfl, hl, fin _ rfl⟩
    · cases hz
  case Pow =>
    unfold opD at hz
    split at hz <;> try (simp only [reduceCtorEq] at *; done)
    split at hz
    · rename_i hl
      cases hz
      obtain ⟨rfl, rfl⟩ := twoI rfl rfl
      exact op_pow pins s σ H _ _ v u Q I rx ry ⟨_, _, rfl, rfl, hl, fin _ rfl⟩
    · cases hz
  case LShift =>
    unfold opD at hz
    split at hz <;> try (simp only [reduceCtorEq] at *; done)
    split at hz
    · rename_i hl
      cases hz
      obtain ⟨rfl, rfl⟩ := twoI rfl rfl
      exact op_shl pins s σ H _ _ v u Q I rx ry ⟨_, _, rfl, rfl, hl, fin _ rfl⟩
    · cases hz
  case RShift =>
    unfold opD at hz
    split at hz <;> try (simp only [reduceCtorEq] at *; done)
    split at hz
    · rename_i hl
      cases hz
      obtain ⟨rfl, rfl⟩ := twoI rfl rfl
      exact op_shr pins s σ H _ _ v u Q I rx ry ⟨_, _, rfl, rfl, hl, fin _ rfl⟩
    · cases hz
  case BitOr =>
    unfold opD at hz
    split at hz <;> try (simp only [reduceCtorEq] at *; done)
    cases hz
    obtain ⟨rfl, rfl⟩ := twoI rfl rfl
    exact op_or pins s σ H _ _ v u Q I rx ry ⟨_, _, rfl, rfl, fin _ rfl⟩
  case BitXor =>
    unfold opD at hz
    split at hz <;> try (simp only [reduceCtorEq] at *; done)
    cases hz
    obtain ⟨rfl, rfl⟩ := twoI rfl rfl
    exact op_xor pins s σ H _ _ v u Q I rx ry ⟨_, _, rfl, rfl, fin _ rfl⟩
  case BitAnd =>
    unfold opD at hz
    split at hz <;> try (simp only [reduceCtorEq] at *; done)
    cases hz
    obtain ⟨rfl, rfl⟩ := twoI rfl rfl
    exact op_and pins s σ H _ _ v u Q I rx ry ⟨_, _, rfl, rfl, fin _ rfl⟩
  case FloorDiv =>
    unfold opD at hz
    split at hz <;> try (simp only [reduceCtorEq] at *; done)
    split at hz
    · rename_i hl
      cases hz
      obtain ⟨rfl, rfl⟩ := twoI rfl rfl
      exact op_fdivW pins s σ H _ _ v u Q I rx ry ⟨_, _, rfl, rfl, hl, fin _ rfl⟩
    · cases hz
end
end Mi


set_option Elab.async false
set_option maxRecDepth 100000
set_option maxHeartbeats 2000000
/-! Mi5: comparisons, subscripts, slices, built-ins, isinstance, by data. -/
namespace Mi
open PySem L2
section
variable {K : PySem.W.Frag} {z : Fs} {G H : Hp}
mutual
theorem Rep.dp (s : Same G H) : ∀ {d : D} {v : V} {p : PyData}, Rep K z G d v → D.toP d = some p → Dp K H v p
  | .non, _, _, h, e => by unfold Rep at h; unfold D.toP at e; subst h; cases e; exact .non
  | .bl _, _, _, h, e => by unfold Rep at h; unfold D.toP at e; subst h; cases e; exact .bl _
  | .int _, _, _, h, e => by unfold Rep at h; unfold D.toP at e; subst h; cases e; exact .int _
  | .str _, _, _, h, e => by unfold Rep at h; unfold D.toP at e; subst h; cases e; exact .str _
  | .st, _, _, _, e => by unfold D.toP at e; cases e
  | .sub _, _, _, _, e => by unfold D.toP at e; cases e
  | .scr _, _, _, _, e => by unfold D.toP at e; cases e
  | .exn _ _, _, _, _, e => by unfold D.toP at e; cases e
  | .tup ds, _, _, h, e => by
    unfold Rep at h
    unfold D.toP at e
    obtain ⟨p, vs, rfl, q, r⟩ := h
    split at e
    · rename_i ps e1
      cases e
      exact .tup (SqT.mono s q) (Reps.dps s r e1)
    · cases e
  | .lst ds, _, _, h, e => by
    unfold Rep at h
    unfold D.toP at e
    obtain ⟨p, vs, rfl, q, r⟩ := h
    split at e
    · rename_i ps e1
      cases e
      exact .lst (SqL.of (s _ _ q)) (Reps.dps s r e1)
    · cases e
theorem Reps.dps (s : Same G H) : ∀ {ds : List D} {vs : List V} {ps : List PyData}, Reps K z G ds vs → D.toPs ds = some ps → DpAll K H vs ps
  | [], _, _, h, e => by unfold Reps at h; unfold D.toPs at e; subst h; cases e; exact .nil
  | d :: ds, _, _, h, e => by
    unfold Reps at h
    unfold D.toPs at e
    obtain ⟨v, r, rfl, q, t⟩ := h
    split at e
    · rename_i p ps e1 e2
      cases e
      exact .cons (Rep.dp s q e1) (Reps.dps s t e2)
    · cases e
end
theorem Rep.flat {d : D} {v : V} (h : Rep K z G d v) (f : flatD d = true) : flatV v = true := by
  cases d <;> first | (unfold Rep at h; subst h; rfl) | (simp [flatD] at f)
theorem Rep.eqF {d e : D} {v u : V} (h : Rep K z G d v) (h' : Rep K z G e u) (f : flatD d = true) (f' : flatD e = true) : Mi.eqF d e = eqV v u := by
  cases d <;> first | (simp [flatD] at f; done) | skip
  all_goals cases e <;> first | (simp [flatD] at f'; done) | skip
  all_goals
    unfold Rep at h h'
    subst h h'
    rfl
theorem Reps.flat : ∀ {ds : List D} {vs : List V}, Reps K z G ds vs → ds.all flatD = true → vs.all flatV = true
  | [], _, h, _ => by unfold Reps at h; subst h; rfl
  | d :: ds, _, h, f => by
    unfold Reps at h
    obtain ⟨v, r, rfl, q, t⟩ := h
    rw [List.all_cons, Bool.and_eq_true] at f
    rw [List.all_cons, q.flat f.1, Reps.flat t f.2]
    rfl
theorem Reps.inV {x : D} {v : V} (h : Rep K z G x v) (fx : flatD x = true) : ∀ {ds : List D} {vs : List V}, Reps K z G ds vs → ds.all flatD = true → (ds.any fun y => Mi.eqF y x) = inV v vs
  | [], _, h, _ => by unfold Reps at h; subst h; rfl
  | d :: ds, _, h', f => by
    unfold Reps at h'
    obtain ⟨u, r, rfl, q, t⟩ := h'
    rw [List.all_cons, Bool.and_eq_true] at f
    have ih := Reps.inV h fx t f.2
    unfold L2.inV at ih ⊢
    rw [List.any_cons, List.any_cons, ih, q.eqF h f.1 fx]
end
section
variable {X : Cx} {S : Sx}
theorem RepB.dp {g : Gs} {G H : Hp} {d : D} {v : V} {p : PyData} (w : World S.a g G H) (h : RepB S G H d v) (e : D.toP d = some p) : Dp S.K H v p := by
  cases d with
  | lst ds =>
    obtain ⟨q, vs, rfl, hq, n, r⟩ := repB_lst h
    unfold D.toP at e
    split at e
    · rename_i ps e1
      cases e
      exact .lst (SqL.of hq) (r.dps w.sub e1)
    · cases e
  | _ => exact Rep.dp w.sub h e
def rCmM (S : Sx) (o : Cm) : R2 := fun x y H Q => ∃ d e g G k, World S.a g G H ∧ RepB S G H d x ∧ RepB S G H e y ∧ cmpD o d e = some k ∧ Q (.bl k) H
theorem eqD_cases {d e : D} {k : Bool} (h : eqD d e = some k) :
    (∃ a b, d = .int a ∧ e = .int b ∧ k = (a == b)) ∨ (∃ a b, d = .str a ∧ e = .str b ∧ k = (a == b)) ∨ (∃ a b, d = .bl a ∧ e = .bl b ∧ k = (a == b)) ∨ (d = .non ∧ e = .non ∧ k = true) ∨
    ∃ p q, d.toP = some p ∧ e.toP = some q ∧ SeqAt.shaped p = true ∧ SeqAt.shaped q = true ∧ k = PyData.eqv p q := by
  unfold eqD at h
  split at h
  · cases h; exact .inl ⟨_, _, rfl, rfl, rfl⟩
  · cases h; exact .inr (.inl ⟨_, _, rfl, rfl, rfl⟩)
  · cases h; exact .inr (.inr (.inl ⟨_, _, rfl, rfl, rfl⟩))
  · cases h; exact .inr (.inr (.inr (.inl ⟨rfl, rfl, rfl⟩)))
  · split at h
    · rename_i p q e1 e2
      split at h
      · rename_i hs
        cases h
        exact .inr (.inr (.inr (.inr ⟨p, q, e1, e2, hs.1, hs.2, rfl⟩)))
      · cases h
    · cases h
theorem isNon_iff' {G H : Hp} {d : D} {v : V} (h : RepB S G H d v) : isNon d = decide (v = .non) := by
  cases d with
  | non => cases repB_non h; rfl
  | bl b => cases repB_bl h; rfl
  | int b => cases repB_int h; rfl
  | str b => cases repB_str h; rfl
  | tup b => obtain ⟨p, vs, rfl, _⟩ := repB_tup h; rfl
  | lst b => obtain ⟨p, vs, rfl, _⟩ := repB_lst h; rfl
  | st => unfold RepB Rep at h; subst h; rfl
  | sub k => unfold RepB Rep at h; obtain ⟨p, _, rfl⟩ := h; rfl
  | scr k => unfold RepB Rep at h; obtain ⟨p, rfl, _⟩ := h; rfl
  | exn k fs => unfold RepB Rep at h; obtain ⟨_, _, _, _, rfl, _⟩ := h; rfl
theorem cmp_mi (hK : X.K = S.K) (hu : X.A.units + 64 < cLine) (oo : CmpOp) : OpR X (compareOp oo) (rCmM S (trCm oo)) := by
  intro pins s σ H x y v u Q I rx ry h
  obtain ⟨d, e, g, G, k, w, rd, re, hz, q⟩ := h
  have twoI : ∀ {i j : Int}, d = .int i → e = .int j → x = .int i ∧ y = .int j := fun {i j} e1 e2 => by
    subst e1 e2
    exact ⟨repB_int rd, repB_int re⟩
  have isin : ∀ {n : Bool} {ds : List D} {kk : Bool}, (e = .tup ds ∨ e = .lst ds) → inD d ds = some kk → k = (if n = true then !kk else kk) → rIn X.K n x y H Q := fun {n ds kk} he hi hk => by
    unfold inD at hi
    split at hi
    · rename_i hf
      cases hi
      have rd' : Rep S.K S.a G d x := by
        cases d <;> first | exact rd | (simp [flatD] at hf)
      have core : ∀ {p : Addr} {vs : List V}, y = .ref p → (SqL X.K H p vs ∨ SqT X.K H p vs) → Reps S.K S.a G ds vs → rIn X.K n x y H Q := fun {p vs} ey hs r =>
        ⟨p, vs, ey, hs, rd'.flat hf.1, r.flat hf.2, by rw [← Reps.inV rd' hf.1 r hf.2, ← hk]; exact q⟩
      rcases he with he | he
      · subst he
        obtain ⟨p, vs, e1, q1, r1⟩ := repB_tup re
        exact core e1 (.inr (hK ▸ SqT.mono w.sub q1)) r1
      · subst he
        obtain ⟨p, vs, e1, q1, _, r1⟩ := repB_lst re
        exact core e1 (.inl (SqL.of q1)) r1
    · cases hi
  cases oo with
  | Eq =>
    have hz : eqD d e = some k := hz
    rcases eqD_cases hz with ⟨a, b, rfl, rfl, rfl⟩ | ⟨a, b, rfl, rfl, rfl⟩ | ⟨a, b, rfl, rfl, rfl⟩ | ⟨rfl, rfl, rfl⟩ | ⟨p, p', e1, e2, s1, s2, rfl⟩
    · cases repB_int rd; cases repB_int re
      exact op_eq pins s σ H _ _ v u Q I rx ry ⟨rfl, by rw [dec_int]; exact q⟩
    · cases repB_str rd; cases repB_str re
      exact op_eq pins s σ H _ _ v u Q I rx ry ⟨rfl, by rw [dec_str]; exact q⟩
    · cases repB_bl rd; cases repB_bl re
      exact op_eq pins s σ H _ _ v u Q I rx ry ⟨rfl, by rw [dec_bl]; exact q⟩
    · cases repB_non rd; cases repB_non re
      exact op_eq pins s σ H _ _ v u Q I rx ry ⟨rfl, by simpa using q⟩
    · exact op_eqD hu pins s σ H _ _ v u Q I rx ry ⟨p, p', hK ▸ rd.dp w e1, hK ▸ re.dp w e2, s1, s2, q⟩
  | NotEq =>
    have hz : (eqD d e).map (!·) = some k := hz
    obtain ⟨k', hz2, rfl⟩ := Option.map_eq_some_iff.mp hz
    rcases eqD_cases hz2 with ⟨a, b, rfl, rfl, rfl⟩ | ⟨a, b, rfl, rfl, rfl⟩ | ⟨a, b, rfl, rfl, rfl⟩ | ⟨rfl, rfl, rfl⟩ | ⟨p, p', e1, e2, s1, s2, rfl⟩
    · cases repB_int rd; cases repB_int re
      exact op_ne pins s σ H _ _ v u Q I rx ry ⟨rfl, by rw [dec_int]; exact q⟩
    · cases repB_str rd; cases repB_str re
      exact op_ne pins s σ H _ _ v u Q I rx ry ⟨rfl, by rw [dec_str]; exact q⟩
    · cases repB_bl rd; cases repB_bl re
      exact op_ne pins s σ H _ _ v u Q I rx ry ⟨rfl, by rw [dec_bl]; exact q⟩
    · cases repB_non rd; cases repB_non re
      exact op_ne pins s σ H _ _ v u Q I rx ry ⟨rfl, by simpa using q⟩
    · exact op_neD hu pins s σ H _ _ v u Q I rx ry ⟨p, p', hK ▸ rd.dp w e1, hK ▸ re.dp w e2, s1, s2, q⟩
  | Lt =>
    simp only [trCm] at hz
    unfold cmpD at hz
    split at hz <;> try (simp only [reduceCtorEq] at *; done)
    cases hz
    obtain ⟨rfl, rfl⟩ := twoI rfl rfl
    exact op_lt pins s σ H _ _ v u Q I rx ry ⟨_, _, rfl, rfl, q⟩
  | LtE =>
    simp only [trCm] at hz
    unfold cmpD at hz
    split at hz <;> try (simp only [reduceCtorEq] at *; done)
    cases hz
    obtain ⟨rfl, rfl⟩ := twoI rfl rfl
    exact op_le pins s σ H _ _ v u Q I rx ry ⟨_, _, rfl, rfl, q⟩
  | Gt =>
    simp only [trCm] at hz
    unfold cmpD at hz
    split at hz <;> try (simp only [reduceCtorEq] at *; done)
    cases hz
    obtain ⟨rfl, rfl⟩ := twoI rfl rfl
    exact op_gt pins s σ H _ _ v u Q I rx ry ⟨_, _, rfl, rfl, q⟩
  | GtE =>
    simp only [trCm] at hz
    unfold cmpD at hz
    split at hz <;> try (simp only [reduceCtorEq] at *; done)
    cases hz
    obtain ⟨rfl, rfl⟩ := twoI rfl rfl
    exact op_ge pins s σ H _ _ v u Q I rx ry ⟨_, _, rfl, rfl, q⟩
  | Is =>
    simp only [trCm] at hz
    unfold cmpD at hz
    split at hz <;> try (simp only [reduceCtorEq] at *; done)
    cases hz
    cases repB_non re
    exact op_isN pins s σ H _ _ v u Q I rx ry ⟨rfl, by rw [← isNon_iff' rd]; exact q⟩
  | IsNot =>
    simp only [trCm] at hz
    unfold cmpD at hz
    split at hz <;> try (simp only [reduceCtorEq] at *; done)
    cases hz
    cases repB_non re
    exact op_notN pins s σ H _ _ v u Q I rx ry ⟨rfl, by rw [← isNon_iff' rd]; exact q⟩
  | In =>
    simp only [trCm] at hz
    unfold cmpD at hz
    split at hz <;> try (simp only [reduceCtorEq] at *; done)
    · exact op_in_seq pins s σ H _ _ v u Q I rx ry (isin (n := false) (.inl rfl) hz rfl)
    · exact op_in_seq pins s σ H _ _ v u Q I rx ry (isin (n := false) (.inr rfl) hz rfl)
  | NotIn =>
    simp only [trCm] at hz
    unfold cmpD at hz
    split at hz <;> try (simp only [reduceCtorEq] at *; done)
    · obtain ⟨k', hz2, rfl⟩ := Option.map_eq_some_iff.mp hz
      exact op_notIn_seq pins s σ H _ _ v u Q I rx ry (isin (n := true) (.inl rfl) hz2 rfl)
    · obtain ⟨k', hz2, rfl⟩ := Option.map_eq_some_iff.mp hz
      exact op_notIn_seq pins s σ H _ _ v u Q I rx ry (isin (n := true) (.inr rfl) hz2 rfl)
/-! ### subscripts, slices -/
theorem Reps.atI {K : PySem.W.Frag} {z : Fs} {G : Hp} {ds : List D} {vs : List V} {i : Int} {d : D} (h : Reps K z G ds vs) (e : atI ds i = some d) : ∃ v, atI vs i = some v ∧ Rep K z G d v := by
  unfold L2.atI at e ⊢
  rw [h.length]
  cases q : ixN ds.length i with
  | none => rw [q] at e; cases e
  | some j =>
    rw [q] at e
    exact h.get e
theorem repB_scr {S : Sx} {G H : Hp} {ns : List Int} {v : V} (h : RepB S G H (.scr ns) v) : ∃ p, v = .ref p ∧ SqL S.K G p (ns.map V.int) := by unfold RepB Rep at h; exact h
theorem repB_st {S : Sx} {G H : Hp} {v : V} (h : RepB S G H .st v) : v = .ref S.a.s := by unfold RepB Rep at h; exact h
theorem repB_sub {S : Sx} {G H : Hp} {k : Nat} {v : V} (h : RepB S G H (.sub k) v) : ∃ p, S.a.ts[k]? = some p ∧ v = .ref p := by unfold RepB Rep at h; exact h
theorem gcV_at {a : Fs} {k : Nat} {p : Addr} (h : a.ts[k]? = some p) : gcV a (.at_ k) = .ref p := by
  unfold gcV
  simp only [h]
theorem atI_map {α β : Type} (f : α → β) (xs : List α) (j : Int) : atI (xs.map f) j = (atI xs j).map f := by
  unfold atI
  rw [List.length_map]
  cases ixN xs.length j with
  | none => rfl
  | some i => exact List.getElem?_map
theorem World.row {a : Fs} {g : Gs} {G H : Hp} (w : World a g G H) (h : g.row ≠ []) : H a.s = some (.lst (g.row.map (gcV a))) := by
  refine w.hs ?_
  cases q : a.on with
  | true => rfl
  | false => exact absurd (w.hn q).1 h
theorem atI_ne {α : Type} {xs : List α} {j : Int} {x : α} (h : atI xs j = some x) : xs ≠ [] := fun e => by
  subst e
  unfold atI at h
  cases q : ixN ([] : List α).length j with
  | none => rw [q] at h; cases h
  | some i => rw [q] at h; simp at h
theorem World.at_ {a : Fs} {g : Gs} {G H : Hp} (w : World a g G H) {k : Nat} {l : List Int} (h : g.ls[k]? = some l) : ∃ p, a.ts[k]? = some p ∧ H p = some (.lst (l.map V.int)) := by
  have hk : k < a.ts.length := by rw [w.hl]; exact (List.getElem?_eq_some_iff.mp h).1
  exact ⟨_, List.getElem?_eq_getElem hk, w.ht k _ l (List.getElem?_eq_getElem hk) h⟩
def rIxM (S : Sx) : R2 := fun x y H Q => ∃ d e g G z, World S.a g G H ∧ RepB S G H d x ∧ Rep S.K S.a G e y ∧ ixG g d e = some z ∧ ∀ v, Rep S.K S.a G z v → Q v H
theorem ix_mi (hK : X.K = S.K) : IxR X (rIxM S) := by
  intro value slice pins s σ H x y v u Q I rx ry h hs
  obtain ⟨d, e, g, G, z, w, rd, re, hz, q⟩ := h
  unfold ixG at hz
  split at hz
  · cases re.inj_int
    cases repB_st rd
    split at hz
    · rename_i i e1
      cases hz
      exact ix_list value slice pins s σ H _ _ v u Q I rx ry ⟨_, _, _, .int i, rfl, rfl, SqL.of (w.row (atI_ne e1)), by rw [atI_map, e1]; rfl, q _ (by unfold Rep; rfl)⟩ hs
    · rename_i k e1
      split at hz
      · rename_i hk
        cases hz
        obtain ⟨p, e2, _⟩ := w.at_ (List.getElem?_eq_getElem hk)
        exact ix_list value slice pins s σ H _ _ v u Q I rx ry ⟨_, _, _, .ref p, rfl, rfl, SqL.of (w.row (atI_ne e1)), by rw [atI_map, e1]; exact congrArg some (gcV_at e2), q _ (by unfold Rep; exact ⟨p, e2, rfl⟩)⟩ hs
      · cases hz
    · cases hz
  · cases re.inj_int
    obtain ⟨p, e2, rfl⟩ := repB_sub rd
    split at hz
    · rename_i l e1
      obtain ⟨i, e3, rfl⟩ := Option.map_eq_some_iff.mp hz
      obtain ⟨p', e4, e5⟩ := w.at_ e1
      rw [e2] at e4
      cases e4
      exact ix_list value slice pins s σ H _ _ v u Q I rx ry ⟨_, _, _, .int i, rfl, rfl, SqL.of e5, by rw [atI_map, e3]; rfl, q _ (by unfold Rep; rfl)⟩ hs
    · cases hz
  unfold ixD at hz
  split at hz
  · obtain ⟨p, vs, rfl, q1, r1⟩ := repB_tup rd
    cases re.inj_int
    obtain ⟨v1, e1, r2⟩ := r1.atI hz
    exact ix_tup value slice pins s σ H _ _ v u Q I rx ry ⟨p, vs, _, v1, rfl, rfl, hK ▸ SqT.mono w.sub q1, e1, q _ r2⟩ hs
  · obtain ⟨p, vs, rfl, q1, _, r1⟩ := repB_lst rd
    cases re.inj_int
    obtain ⟨v1, e1, r2⟩ := r1.atI hz
    exact ix_list value slice pins s σ H _ _ v u Q I rx ry ⟨p, vs, _, v1, rfl, rfl, SqL.of q1, e1, q _ r2⟩ hs
  · cases repB_str rd
    cases re.inj_int
    unfold strAt at hz
    split at hz
    · rename_i hl
      obtain ⟨c, e1, rfl⟩ := Option.map_eq_some_iff.mp hz
      exact ix_str value slice pins s σ H _ _ v u Q I rx ry ⟨_, _, c, rfl, rfl, hl, e1, q _ (by unfold Rep; rfl)⟩ hs
    · cases hz
  · obtain ⟨p, rfl, q1⟩ := repB_scr rd
    cases re.inj_int
    obtain ⟨i, e3, rfl⟩ := Option.map_eq_some_iff.mp hz
    exact ix_list value slice pins s σ H _ _ v u Q I rx ry ⟨_, _, _, .int i, rfl, rfl, hK ▸ SqL.mono w.sub q1, by rw [atI_map, e3]; rfl, q _ (by unfold Rep; rfl)⟩ hs
  · cases hz
def rSlM (S : Sx) : V → Option Int → Option Int → Hp → VK → Prop := fun x lo hi H Q => ∃ d g G z, World S.a g G H ∧ RepB S G H d x ∧ slD d lo hi = some z ∧
  ∀ G' H' v, Ext S.a G H G' H' → World S.a g G' H' → RepF S H G' H' z v → Q v H'
theorem Reps.cut {K : PySem.W.Frag} {z : Fs} {G : Hp} {ds : List D} {vs : List V} (h : Reps K z G ds vs) (lo hi : Option Int) : Reps K z G (cutD ds lo hi) (cutV vs lo hi) := by
  unfold cutD cutV
  rw [h.length]
  exact (h.drop _).take _
theorem sl_mi (hK : X.K = S.K) : SlR X (rSlM S) := by
  intro pins s σ H x v vl vu lo hi sl Q I rx hsl hl hu h
  obtain ⟨d, g, G, z, w, rd, hz, k⟩ := h
  unfold slD at hz
  split at hz
  · cases hz
    obtain ⟨p, vs, rfl, q1, r1⟩ := repB_tup rd
    refine sl_tupA pins s σ H _ v vl vu lo hi sl Q I rx hsl hl hu ⟨p, vs, rfl, hK ▸ SqT.mono w.sub q1, fun he => ?_, fun _ p2 hp => ?_⟩
    · refine k G H _ Ext.refl w ?_
      unfold RepF Rep
      have e1 := r1.length
      refine ⟨p, vs, rfl, q1, ?_⟩
      unfold cutD
      rw [← e1, he.1, he.2, Nat.sub_zero, List.drop_zero, e1, List.take_length]
      exact r1
    · have r2 := r1.cut lo hi
      obtain ⟨x1, w1, f1⟩ := newT w hp r2
      exact k _ _ _ x1 w1 f1
  · cases hz
    obtain ⟨p, vs, rfl, q1, _, r1⟩ := repB_lst rd
    refine sl_list pins s σ H _ v vl vu lo hi sl Q I rx hsl hl hu ⟨p, vs, rfl, SqL.of q1, fun p2 hp => ?_⟩
    have r2 := r1.cut lo hi
    obtain ⟨x1, w1, f1⟩ := newL w hp r2
    exact k _ _ _ x1 w1 f1
  · rename_i ns
    cases hz
    obtain ⟨p, rfl, q1⟩ := repB_scr rd
    refine sl_list pins s σ H _ v vl vu lo hi sl Q I rx hsl hl hu ⟨p, _, rfl, hK ▸ SqL.mono w.sub q1, fun p2 hp => ?_⟩
    have r2 := (Reps.ofInts (K := S.K) (z := S.a) (G := G) ns).cut lo hi
    obtain ⟨x1, w1, f1⟩ := newL w hp r2
    exact k _ _ _ x1 w1 f1
  · cases hz
/-! ### built-ins -/
theorem repsB1 {G H : Hp} {d : D} {vs : List V} (h : RepsB S G H [d] vs) : ∃ v, vs = [v] ∧ RepB S G H d v := by
  cases h with
  | cons r t => cases t; exact ⟨_, rfl, r⟩
theorem repsB2 {G H : Hp} {d e : D} {vs : List V} (h : RepsB S G H [d, e] vs) : ∃ v u, vs = [v, u] ∧ RepB S G H d v ∧ RepB S G H e u := by
  cases h with
  | cons r t => cases t with
    | cons r' t' => cases t'; exact ⟨_, _, rfl, r, r'⟩
def rBiM (S : Sx) (b : BI) : List V → Hp → VK → Prop := fun vs H Q => ∃ ds g G z, World S.a g G H ∧ RepsB S G H ds vs ∧ biG g b ds = some z ∧
  ∀ G' H' v, Ext S.a G H G' H' → World S.a g G' H' → RepF S H G' H' z v → Q v H'
def BI.val : BI → Value
  | .len => .builtin "len"
  | .tuple => .type "tuple"
  | .list => .type "list"
  | .int => .type "int"
  | .sum => .builtin "sum"
  | .all => .builtin "all"
  | .any => .builtin "any"
  | .max2 => .builtin "max"
  | .min2 => .builtin "min"
  | .abs => .builtin "abs"
  | .str => .type "str"
theorem log2_small {i : Int} (h : smallI i = true) : i.natAbs.log2 < 1920 := by
  unfold smallI at h
  have h := of_decide_eq_true h
  have a : i.natAbs < 2 ^ 64 := by omega
  by_cases z : i.natAbs = 0
  · rw [z]; decide
  · have := (Nat.log2_lt z).mpr a
    omega
theorem bi_mi (hK : X.K = S.K) (b : BI) (hc : biHot b = false → X.calm = true) : CallR X b.val (rBiM S b) := by
  intro pins s σ H xs us Q I r h
  obtain ⟨ds, g, G, z, w, rs, hz, k⟩ := h
  unfold biG at hz
  cases hq : biS g b ds with
  | some q =>
    rw [hq] at hz
    cases hz
    unfold biS at hq
    split at hq
    · split at hq
      · rename_i l e1
        cases hq
        obtain ⟨v, rfl, rv⟩ := repsB1 rs
        obtain ⟨p, e2, rfl⟩ := repB_sub rv
        obtain ⟨p', e4, e5⟩ := w.at_ e1
        rw [e2] at e4
        cases e4
        refine call_len_seq pins s σ H _ us Q I r ⟨p, _, rfl, .inl (SqL.of e5), ?_⟩
        rw [List.length_map]
        exact k G H _ Ext.refl w repF_int
      · cases hq
    · cases hq
  | none =>
  rw [hq] at hz
  simp only at hz
  clear hq
  cases b <;> unfold biD at hz <;> split at hz <;> try (simp only [reduceCtorEq] at *; done)
  · cases hz
    obtain ⟨v, rfl, rv⟩ := repsB1 rs
    obtain ⟨p, vs, rfl, q1, r1⟩ := repB_tup rv
    exact call_len_seq pins s σ H _ us Q I r ⟨p, vs, rfl, .inr (hK ▸ SqT.mono w.sub q1), by rw [r1.length]; exact k G H _ Ext.refl w repF_int⟩
  · cases hz
    obtain ⟨v, rfl, rv⟩ := repsB1 rs
    obtain ⟨p, vs, rfl, q1, _, r1⟩ := repB_lst rv
    exact call_len_seq pins s σ H _ us Q I r ⟨p, vs, rfl, .inl (SqL.of q1), by rw [r1.length]; exact k G H _ Ext.refl w repF_int⟩
  · cases hz
    obtain ⟨v, rfl, rv⟩ := repsB1 rs
    obtain ⟨p, rfl, q1⟩ := repB_scr rv
    exact call_len_seq pins s σ H _ us Q I r ⟨p, _, rfl, .inl (hK ▸ SqL.mono w.sub q1), by rw [List.length_map]; exact k G H _ Ext.refl w repF_int⟩
  · split at hz
    · rename_i hl
      cases hz
      obtain ⟨v, rfl, rv⟩ := repsB1 rs
      cases repB_str rv
      exact call_len_str pins s σ H _ us Q I r ⟨_, rfl, hl, k G H _ Ext.refl w repF_int⟩
    · cases hz
  · cases hz
    obtain ⟨v, rfl, rv⟩ := repsB1 rs
    obtain ⟨p, vs, rfl, q1, r1⟩ := repB_tup rv
    exact call_tuple_of pins s σ H _ us Q I r ⟨p, vs, rfl, .inr ⟨hK ▸ SqT.mono w.sub q1, k G H _ Ext.refl w (by unfold RepF Rep; exact ⟨p, vs, rfl, q1, r1⟩)⟩⟩
  · cases hz
    obtain ⟨v, rfl, rv⟩ := repsB1 rs
    obtain ⟨p, vs, rfl, q1, _, r1⟩ := repB_lst rv
    refine call_tuple_of pins s σ H _ us Q I r ⟨p, vs, rfl, .inl ⟨SqL.of q1, fun p2 hp => ?_⟩⟩
    obtain ⟨x1, w1, f1⟩ := newT w hp r1
    exact k _ _ _ x1 w1 f1
  · cases hz
    obtain ⟨v, rfl, rv⟩ := repsB1 rs
    obtain ⟨p, vs, rfl, q1, r1⟩ := repB_tup rv
    refine call_list_of pins s σ H _ us Q I r ⟨p, vs, rfl, .inr (hK ▸ SqT.mono w.sub q1), fun p2 hp => ?_⟩
    obtain ⟨x1, w1, f1⟩ := newL w hp r1
    exact k _ _ _ x1 w1 f1
  · cases hz
    obtain ⟨v, rfl, rv⟩ := repsB1 rs
    obtain ⟨p, vs, rfl, q1, _, r1⟩ := repB_lst rv
    refine call_list_of pins s σ H _ us Q I r ⟨p, vs, rfl, .inl (SqL.of q1), fun p2 hp => ?_⟩
    obtain ⟨x1, w1, f1⟩ := newL w hp r1
    exact k _ _ _ x1 w1 f1
  · cases hz
    obtain ⟨v, rfl, rv⟩ := repsB1 rs
    cases repB_int rv
    exact call_int1 pins s σ H _ us Q I r (.inl ⟨_, rfl, k G H _ Ext.refl w repF_int⟩)
  · cases hz
    obtain ⟨v, rfl, rv⟩ := repsB1 rs
    cases repB_bl rv
    exact call_int1 pins s σ H _ us Q I r (.inr ⟨_, rfl, k G H _ Ext.refl w repF_int⟩)
  · obtain ⟨ns, e1, rfl⟩ := Option.map_eq_some_iff.mp hz
    obtain ⟨v, rfl, rv⟩ := repsB1 rs
    obtain ⟨p, vs, rfl, q1, _, r1⟩ := repB_lst rv
    exact cr_sum (hc rfl) pins s σ H _ us Q I r ⟨p, ns, rfl, SqL.of (by rw [← r1.ints e1]; exact q1), k G H _ Ext.refl w repF_int⟩
  · obtain ⟨ns, e1, rfl⟩ := Option.map_eq_some_iff.mp hz
    obtain ⟨v, rfl, rv⟩ := repsB1 rs
    obtain ⟨p, vs, rfl, q1, _, r1⟩ := repB_lst rv
    exact cr_all (hc rfl) pins s σ H _ us Q I r ⟨p, ns, rfl, SqL.of (by rw [← r1.bls e1]; exact q1), k G H _ Ext.refl w repF_bl⟩
  · obtain ⟨ns, e1, rfl⟩ := Option.map_eq_some_iff.mp hz
    obtain ⟨v, rfl, rv⟩ := repsB1 rs
    obtain ⟨p, vs, rfl, q1, _, r1⟩ := repB_lst rv
    exact cr_any (hc rfl) pins s σ H _ us Q I r ⟨p, ns, rfl, SqL.of (by rw [← r1.bls e1]; exact q1), k G H _ Ext.refl w repF_bl⟩
  · cases hz
    obtain ⟨v, u, rfl, rv, ru⟩ := repsB2 rs
    cases repB_int rv; cases repB_int ru
    exact call_max2 (hc rfl) pins s σ H _ us Q I r ⟨_, _, rfl, k G H _ Ext.refl w repF_int⟩
  · cases hz
    obtain ⟨v, u, rfl, rv, ru⟩ := repsB2 rs
    cases repB_int rv; cases repB_int ru
    exact call_min2 (hc rfl) pins s σ H _ us Q I r ⟨_, _, rfl, k G H _ Ext.refl w repF_int⟩
  · cases hz
    obtain ⟨v, rfl, rv⟩ := repsB1 rs
    cases repB_int rv
    exact call_abs pins s σ H _ us Q I r ⟨_, rfl, k G H _ Ext.refl w repF_int⟩
  · split at hz
    · rename_i hl
      cases hz
      obtain ⟨v, rfl, rv⟩ := repsB1 rs
      cases repB_int rv
      exact call_str_int pins s σ H _ us Q I r ⟨_, rfl, log2_small hl, k G H _ Ext.refl w (by unfold RepF Rep; rfl)⟩
    · cases hz
end
end Mi


set_option Elab.async false
set_option maxRecDepth 100000
set_option maxHeartbeats 4000000
/-! Xc0: classes C(B(ValueError)) whose __init__ says super().__init__(..), then keeps its arguments. -/
namespace Xc
open PySem PySem.W PySem.Calls PyProof.Rows PySem.HandSPX
section
variable {prog : Program} {w : PySem.World} {A : Around} {E : Value → Shared → Prop} {K : Frag}
/-- what is told of x while it is made: its arguments at t -/
abbrev xo (C t : Addr) (d : Option Addr) : Obj := { cls := .ref C, dict := d, data := .fields #[.ref t, .none, .none, .none, .bool false, .none] }
/-- the wrapper of ValueError.__init__, called -/
theorem call_mw {u x C t : Addr} {rest : List Value} {Q : Value → Shared → Prop} {h : Heap} {g : Array GenState} {d : Drawn} {tk : Nat} {os : OsState} (X : K.In h) (q : excInitIn K C ([.type "ValueError", .type "Exception", .type "BaseException", .type "object"]) "ValueError.__new__" = true)
    (hu : h.get? u = some (kxs_mw "ValueError.__init__" x)) (hx : h.get? x = some (xo C t none)) (hz : rest.length ≤ sizeLine)
    (hq : ∀ h' t', (∀ b o, b ≠ x → h.get? b = some o → h'.get? b = some o) → h'.get? x = some (xo C t' none) → Q .none ⟨h', g, d, tk, os⟩) :
    wpAny (model prog w) A (call (.ref u) rest) Q E ⟨h, g, d, tk, os⟩ := by
  obtain ⟨nm, N', qn, bs, bm, hdct, sn, sub, ab, col, dd, k0, k1, k2, k3, k5, hC, hT⟩ := excInit_of X q
  refine wpAny_call (codeAny_of_tree ?_)
  show wpAny _ A.in1 (callAny (.ref u) ⟨rest, []⟩) _ _ _
  simp only [callAny]
  refine wpAny_bind (wpAny_load hu ?_)
  simp only [kxs_mw, show (Value.type "method-wrapper" == Value.type "method" || Value.type "method-wrapper" == Value.type "builtin_function_or_method" || Value.type "method-wrapper" == Value.type "method-wrapper") = true by decide, if_true]
  refine KFB.if_so (by decide) ?_
  refine wpAny_bind (check_bound_init F.excBase_ValueError.toExcCallFacts hC hx rfl ?_)
  refine wpAny_bind (wpAny_pure (wpAny_pure ?_))
  refine ⟨plainId_quiet F.excBase_ValueError.init.plain _, codeAny_builtin F.excBase_ValueError.initEntry ?_⟩
  exact exc_init_tree (cls := .ref C) (t0 := t) (dv := none) (c2 := .none) (c3 := .none) (b4 := .bool false) hx hz fun h' k e' _ => hq h' _ k e'
/-- super().__init__(args), args that are but loaded -/
theorem run_super {x C t L f cda cc : Addr} {qual : Str} {scope : Scope} {m mg mb : Str → Option Value} {fd : FuncData} {ar : Arg} {vs : Array Value} {file : Str} {tf : Tok} {oc ccl cl : Value} {od cdd cld : Option Addr} {osl ccs csl : Array (Option Value)} {cdC : ClassData}
    {body : List Stmt} {p0 p1 p2 p3 p4 : Pos} {e1 : Expr} {args : List Expr} {us : List Value} {Q : Flow → Shared → Prop} {h : Heap} {g : Array GenState} {d : Drawn} {tk : Nat} {os : OsState}
    (X : K.In h) (hg : h.Ns mainGlobals mg) (hms : mg "super" = none) (hb : h.Ns builtinsNs mb) (hbs : mb "super" = some (.type "super")) (hn : h.Ns L m)
    (hf : K.lookup f = some ⟨oc, od, .func fd, osl⟩) (hp : (fd.params.posonlyargs ++ fd.params.args).head? = some ar) (hself : m ar.arg = some (.ref x)) (hx : h.get? x = some (xo C t none))
    (hcode : K.lookup cda = some ⟨ccl, cdd, .fields vs, ccs⟩) (hvs : vs[2]? = some (.str file tf)) (hfile : ((prog.main.file : Str) == file) = true) (hcell : K.lookup cc = some ⟨cl, cld, .cell (some (.ref C)), csl⟩) (hC : clsIn K C = some cdC)
    (hsub : mroIn K C (.ref C) = some true) (hks : scope.names.lookup ("super" : Str) = some .globalImplicit) (hkc : scope.names.lookup ("__class__" : Str) = some .free) (hka : scope.names.lookup ar.arg = some .local) (hk : scope.kind = .function)
    (htop : (prog.main.scope.names.lookup ("super" : Str)).isSome = false) (ho : nsIn K cStatics "thirdparty.any" = some none) (hm : ks_superIn K C C "__init__" = some (some (.builtin "ValueError.__init__"))) (hB : subIn K (.ref C) (.type "ValueError") = some true)
    (q : excInitIn K C ([.type "ValueError", .type "Exception", .type "BaseException", .type "object"]) "ValueError.__new__" = true) (hz : us.length ≤ sizeLine)
    (ha : ∀ (s' : Shared) (R : List Value → Shared → Prop), s'.heap.Ns L m → R us s' → wpAny (model prog w) A (spliced (backTo p3 (starEach (e1 :: args) (ksEnv qual scope L f (.ref cda) cc)))) R E s')
    (he : starEach (e1 :: args) (ksEnv qual scope L f (.ref cda) cc) = (false, eval e1 (ksEnv qual scope L f (.ref cda) cc)) :: starEach args (ksEnv qual scope L f (.ref cda) cc)) (hpl : (backTo p3 (starEach args (ksEnv qual scope L f (.ref cda) cc))).any (·.1) = false)
    (hi : interactive (ksEnv qual scope L f (.ref cda) cc) = false) {pl : Sem Bool} (hev : eval (.Call (.Attribute (.Call (.Name "super" p0) [] [] p1) "__init__" p2) (e1 :: args) [] p3) (ksEnv qual scope L f (.ref cda) cc) = (do
      let ov ← attributeBase (.Call (.Name "super" p0) [] [] p1) "__init__" (ksEnv qual scope L f (.ref cda) cc) (eval (.Call (.Name "super" p0) [] [] p1) (ksEnv qual scope L f (.ref cda) cc))
      standAt p2.atName
      let (fv, first) ← holding [ov] (getMethod ov "__init__" pl)
      callWith p3 fv first (backTo p3 (starEach (e1 :: args) (ksEnv qual scope L f (.ref cda) cc))) []))
    (hq : ∀ h' t' tk', (∀ b o, b ≠ x → h.get? b = some o → h'.get? b = some o) → h'.get? x = some (xo C t' none) → Q .next ⟨h', g, d, tk', os⟩) :
    _root_.PySem.wpAt (model prog w) A (.func body (ksEnv qual scope L f (.ref cda) cc)) (exec (.Expr (.Call (.Attribute (.Call (.Name "super" p0) [] [] p1) "__init__" p2) (e1 :: args) [] p3) p4) (ksEnv qual scope L f (.ref cda) cc)) Q E ⟨h, g, d, tk, os⟩ := by
  obtain ⟨oC, hC1, hC2⟩ : ∃ oC, h.get? C = some oC ∧ oC.data = .cls cdC := by
    unfold clsIn at hC
    split at hC
    · rename_i c d cd' sl hh
      cases hC
      exact ⟨_, X _ _ hh, rfl⟩
    · cases hC
  have I : InstAt h x (xo C t none) C none := ⟨hx, rfl, rfl, trivial⟩
  refine ks_wpAt_Expr_any (ks_wpAt_MethodCall ?_ hev) hi
  refine ks_wpAt_super_base (env := ksEnv qual scope L f (.ref cda) cc) hks hkc (by decide) rfl (X _ _ hf) rfl hp rfl (X _ _ hcode) rfl hvs hfile htop ?_
  refine ks_loadName_global hk hks (loadGlobal_builtin (env := ksEnv qual scope L f (.ref cda) cc) hg hms hb hbs ⟨rfl, ?_⟩)
  refine wpAny_loadName_free hk hkc rfl ⟨_, X _ _ hcell, rfl⟩ ?_
  refine wpAny_loadName_local hk hka hn hself ?_
  refine ks_wpAny_isType_cls hC1 hC2 ⟨rfl, ?_⟩
  refine ks_wpAny_call_super hC1 hC2 I.at_ I.cls (fun c e => by cases e) (looks_mroIn X hsub) (fun h1 e k1 => ?_)
  have X1 : K.In h1 := X.keeps k1
  have hI1 : Looks (model prog w) h1 (isInstance (.ref x) (.type "ValueError")) true := (InstAt.type (⟨k1 _ _ hx, rfl, rfl, trivial⟩ : InstAt h1 x (xo C t none) C none)).andThen (looks_subIn X1 hB)
  unfold ks_superIn at hm
  rw [hC] at hm
  refine kxs_getMethod kxs_ValueError e (looks_opaque X1 ho) (l₀ := cdC.mro) (fun A Q E s k q => wpAny_bind ((looks_clsIn X1 hC) A _ E s k (wpAny_pure q))) rfl X1 hm hI1 (ks_ne X I hC) (by decide) ?_
  have k2 : ∀ b o, h.get? b = some o → (h1.push (kxs_mw "ValueError.__init__" x)).get? b = some o := fun b o z => Heap.get?_push_of_some _ (k1 b o z)
  have hu : (h1.push (kxs_mw "ValueError.__init__" x)).get? h1.objs.size = some (kxs_mw "ValueError.__init__" x) := Heap.get?_push_at rfl rfl
  have hn2 : (h1.push (kxs_mw "ValueError.__init__" x)).Ns L m := by
    obtain ⟨o, es, ep, z, r⟩ := hn
    exact ⟨o, es, ep, k2 _ _ z, r⟩
  rw [he]
  refine kxs_callWith (i := "ValueError.__init__") (x := x) (by show (false || (backTo p3 (starEach args _)).any (·.1)) = false; rw [hpl]; rfl) (evalArgs_plain ?_)
  have ha' := ha ⟨h1.push (kxs_mw "ValueError.__init__" x), g, d, tk + 1, os⟩
  rw [he] at ha'
  refine ha' _ hn2 ⟨hu, ?_⟩
  refine call_mw (X.keeps k2) q hu (k2 _ _ hx) hz fun h' t' k3 hx' => hq h' t' _ (fun b o hb z => k3 b o hb (k2 b o z)) hx'
/-- self.f = v, the first field -/
theorem fld_first {env : PySem.Env} {x C t : Addr} {m : Str → Option Value} {cd : ClassData} {f vn : Str} {v : Value} {a b c d' : Pos} {Q : Flow → Shared → Prop} {h : Heap} {g : Array GenState} {d : Drawn} {tk : Nat} {os : OsState}
    (X : K.In h) (hn : h.Ns env.locals m) (hs : m "self" = some (.ref x)) (hv : m vn = some v) (hk : env.scope.kind = .function) (k1 : env.kindOf "self" = some .local) (k2 : env.kindOf vn = some .local) (dv : (vn == ("__debug__" : Str)) = false)
    (hx : h.get? x = some (xo C t none)) (hcl : clsIn K C = some cd) (hm : refsVE cd.mro = true) (hd : cd.hasDict = true) (sa : findIn K (.ref C) "__setattr__" = some (some (.builtin "object.__setattr__"))) (no : findIn K (.ref C) f = some none)
    (hsw : swapsWith (.Name vn c) (some (.Attribute (.Name "self" a) f b)) d'.line env = pure false)
    (hq : ∀ h' tk' dx, (∀ b o, b ≠ x → h.get? b = some o → h'.get? b = some o) → h.objs.size ≤ dx → dx ≠ x → h'.get? x = some (xo C t (some dx)) → h'.Ns1 dx (fun y => if y = f then some v else none) → Q .next ⟨h', g, d, tk', os⟩) :
    wpAny (model prog w) A (exec (.Assign [.Attribute (.Name "self" a) f b] (.Name vn c) d') env) Q E ⟨h, g, d, tk, os⟩ := by
  refine plainObj_wpAny_Assign_Attribute (wpAny_Name (wpAny_loadName_local hk k2 hn hv ?_) dv) hsw
  refine wpAny_Name (wpAny_loadName_local hk k1 hn hs ?_) (by decide)
  refine set_plain X (ox := xo C t none) (od := none) ⟨hx, rfl, rfl, trivial⟩ sa ?_
  exact exc_osa X hx hcl hm hd no fun h' tk' dx k' dn dne hx' hn' => hq h' tk' dx k' dn dne hx' hn'
/-- a further field -/
theorem fld_more {env : PySem.Env} {x C t dx : Addr} {m m0 : Str → Option Value} {nl : List Str} {cd : ClassData} {f vn : Str} {v : Value} {a b c d' : Pos} {Q : Flow → Shared → Prop} {h : Heap} {g : Array GenState} {d : Drawn} {tk : Nat} {os : OsState}
    (X : K.In h) (hn : h.Ns env.locals m) (hs : m "self" = some (.ref x)) (hv : m vn = some v) (hk : env.scope.kind = .function) (k1 : env.kindOf "self" = some .local) (k2 : env.kindOf vn = some .local) (dv : (vn == ("__debug__" : Str)) = false)
    (hx : h.get? x = some (xo C t (some dx))) (hns : h.Ns1 dx m0) (hw : Within m0 nl) (hz : nl.length ≤ 1000) (hcl : clsIn K C = some cd) (hm : refsVE cd.mro = true) (hd : cd.hasDict = true) (sa : findIn K (.ref C) "__setattr__" = some (some (.builtin "object.__setattr__"))) (no : findIn K (.ref C) f = some none)
    (hsw : swapsWith (.Name vn c) (some (.Attribute (.Name "self" a) f b)) d'.line env = pure false)
    (hq : ∀ h' tk', (∀ b o, b ≠ dx → h.get? b = some o → h'.get? b = some o) → h'.Ns1 dx (fun y => if y = f then some v else m0 y) → Q .next ⟨h', g, d, tk', os⟩) :
    wpAny (model prog w) A (exec (.Assign [.Attribute (.Name "self" a) f b] (.Name vn c) d') env) Q E ⟨h, g, d, tk, os⟩ := by
  obtain ⟨oD, esD, epD, hoD, _, _⟩ := hns.count hw
  refine plainObj_wpAny_Assign_Attribute (wpAny_Name (wpAny_loadName_local hk k2 hn hv ?_) dv) hsw
  refine wpAny_Name (wpAny_loadName_local hk k1 hn hs ?_) (by decide)
  refine set_plain X (ox := xo C t (some dx)) (od := some oD) ⟨hx, rfl, rfl, hoD⟩ sa ?_
  exact PySem.OEX.osa_old X hx hns hw hz hcl hm hd no fun h' tk' k' hn' => hq h' tk' k' hn'
/-! ### the def __init__ -/
def ia1 (f : Str) (p q : Pos) : Arguments := { posonlyargs := [], args := [⟨"self", none, p⟩, ⟨f, none, q⟩], vararg := none, kwonlyargs := [], kw_defaults := [], kwarg := none, defaults := [] }
def is1 (f : Str) : Scope := { kind := .function, names := [("self", .local), (f, .local), ("__class__", .free), ("super", .globalImplicit)], isGenerator := false, isCoroutine := false, more := [] }
def ib1 (f : Str) (p0 p1 p2 p3 p4 e1 a b c d : Pos) : List Stmt := [.Expr (.Call (.Attribute (.Call (.Name "super" p0) [] [] p1) "__init__" p2) [.Name f e1] [] p3) p4, .Assign [.Attribute (.Name "self" a) f b] (.Name f c) d]
/-- what stands written of such a class and of its __init__ with one field -/
structure Own (K : Frag) (prog : Program) (C fI : Addr) : Prop where
  cls : ∃ cd, clsIn K C = some cd ∧ refsVE cd.mro = true ∧ cd.hasDict = true
  sub : mroIn K C (.ref C) = some true
  ve : subIn K (.ref C) (.type "ValueError") = some true
  sa : findIn K (.ref C) "__setattr__" = some (some (.builtin "object.__setattr__"))
  opq : nsIn K cStatics "thirdparty.any" = some none
  sup : ks_superIn K C C "__init__" = some (some (.builtin "ValueError.__init__"))
  ini : excInitIn K C ([.type "ValueError", .type "Exception", .type "BaseException", .type "object"]) "ValueError.__new__" = true
  top : (prog.main.scope.names.lookup ("super" : Str)).isSome = false
structure Init1 (K : Frag) (prog : Program) (C fI : Addr) (f qual : Str) : Prop where
  own : Own K prog C fI
  no : findIn K (.ref C) f = some none
  dv : (f == ("__debug__" : Str)) = false ∧ f ≠ "self" ∧ f ≠ "super" ∧ f ≠ "__class__"
  fn : ∃ (oc doc pm ct : Value) (od an : Option Addr) (osl : Array (Option Value)) (cda cc : Addr) (p q p0 p1 p2 p3 p4 e1 a b c d : Pos) (vs : Array Value) (file : Str) (tf : Tok) (ccl cl : Value) (cdd cld : Option Addr) (ccs csl : Array (Option Value)),
    K.lookup fI = some ⟨oc, od, .func (ksFn "__init__" qual (ia1 f p q) (ib1 f p0 p1 p2 p3 p4 e1 a b c d) (is1 f) .none .none doc pm an (.ref cda) ct cc), osl⟩ ∧ codeIn K (.ref cda) qual = true ∧
    K.lookup cda = some ⟨ccl, cdd, .fields vs, ccs⟩ ∧ vs[2]? = some (.str file tf) ∧ ((prog.main.file : Str) == file) = true ∧ K.lookup cc = some ⟨cl, cld, .cell (some (.ref C)), csl⟩ ∧
    (∀ u v : Value, bindArgs (ksFn "__init__" qual (ia1 f p q) (ib1 f p0 p1 p2 p3 p4 e1 a b c d) (is1 f) .none .none doc pm an (.ref cda) ct cc) ⟨[u, v], []⟩ = pure [(("self" : Str), u), (f, v)]) ∧
    (∀ env : PySem.Env, ∃ pl : Sem Bool, eval (.Call (.Attribute (.Call (.Name "super" p0) [] [] p1) "__init__" p2) [.Name f e1] [] p3) env = (do
      let ov ← attributeBase (.Call (.Name "super" p0) [] [] p1) "__init__" env (eval (.Call (.Name "super" p0) [] [] p1) env)
      standAt p2.atName
      let (fv, first) ← holding [ov] (getMethod ov "__init__" pl)
      callWith p3 fv first (backTo p3 (starEach [.Name f e1] env)) []))
theorem look2 {f : Str} {x v : Value} (h : f ≠ "self") : ((([("self", x), (f, v)] : List (Str × Value)).reverse.lookup ("self" : Str)) = some x) ∧ ((([("self", x), (f, v)] : List (Str × Value)).reverse.lookup f) = some v) := by
  have e : (("self" : Str) == f) = false := by simpa using Ne.symm h
  exact ⟨by simp [List.lookup, e], by simp [List.lookup]⟩
theorem kept_x {h h' : Heap} {x : Addr} (X : K.In h) (hx : K.lookup x = none) (k : ∀ b o, b ≠ x → h.get? b = some o → h'.get? b = some o) : K.In h' := fun a o e =>
  k a o (fun z => by subst z; rw [hx] at e; cases e) (X a o e)
theorem init1_run {C fI x t : Addr} {f qual : Str} {mg mb : Str → Option Value} {v : Value} {R : Result → Shared → Prop} {s : Shared} (I : Init1 K prog C fI f qual) (X : K.In s.heap) (hnx : K.lookup x = none) (hlim : s.heap.NoLimit) (hg : s.heap.Ns mainGlobals mg) (hms : mg "super" = none)
    (hb : s.heap.Ns builtinsNs mb) (hbs : mb "super" = some (.type "super")) (hx : s.heap.get? x = some (xo C t none)) (hroom : A.depth < recursionLimit)
    (hq : ∀ h' tk t' dx, (∀ b o, b ≠ x → s.heap.get? b = some o → h'.get? b = some o) → h'.get? x = some (xo C t' (some dx)) → s.heap.objs.size ≤ dx → dx ≠ x → h'.Ns1 dx (fun y => if y = f then some v else none) → R (.ok (.ret .none)) { s with heap := h', toks := tk }) :
    codeAny (model prog w) A (.call (.ref fI) ⟨[.ref x, v], []⟩) R s := by
  obtain ⟨oc, doc, pm, ct, od, an, osl, cda, cc, p, q, p0, p1, p2, p3, p4, e1, a, b, c, d, vs, file, tf, ccl, cl, cdd, cld, ccs, csl, hf, hcd, hcode, hvs, hfile, hcell, hbd, hev⟩ := I.fn
  obtain ⟨cd, hcl, hm, hd⟩ := I.own.cls
  obtain ⟨d1, d2, d3, d4⟩ := I.dv
  obtain ⟨l1, l2⟩ := look2 (x := .ref x) (v := v) d2
  have ns : (("self" : Str) == f) = false := by simpa using Ne.symm d2
  have kf : (is1 f).names.lookup f = some .local := by
    have e : (f == ("self" : Str)) = false := by simpa using d2
    simp [is1, List.lookup, e]
  have ks : (is1 f).names.lookup ("super" : Str) = some .globalImplicit := by
    have e1 : (("super" : Str) == "self") = false := by decide
    have e2 : (("super" : Str) == f) = false := by simpa using Ne.symm d3
    have e3 : (("super" : Str) == "__class__") = false := by decide
    simp [is1, List.lookup, e1, e2, e3]
  have kc : (is1 f).names.lookup ("__class__" : Str) = some .free := by
    have e1 : (("__class__" : Str) == "self") = false := by decide
    have e2 : (("__class__" : Str) == f) = false := by simpa using Ne.symm d4
    simp [is1, List.lookup, e1, e2]
  refine ks_codeAny_call_defAt (fd := ksFn "__init__" qual (ia1 f p q) (ib1 f p0 p1 p2 p3 p4 e1 a b c d) (is1 f) .none .none doc pm an (.ref cda) ct cc) (body := ib1 f p0 p1 p2 p3 p4 e1 a b c d) (binds := [("self", .ref x), (f, v)]) hroom (X _ _ hf) rfl hlim (codeRec_of X hcd) rfl (BindsTo.of_eq (hbd _ _)) ?_ ?_ (fun h0 hns hk => ?_)
  · intro y hy
    have hy : y ∈ [(("self" : Str), NameKind.local), (f, .local), ("__class__", .free), ("super", .globalImplicit)] := hy
    simp at hy
    rcases hy with rfl | rfl | rfl | rfl <;> simp
  · intro y hy
    simp at hy
    rcases hy with rfl | rfl
    · rfl
    · exact kf
  · have X0 : K.In h0 := X.keeps hk
    have hx0 := hk _ _ hx
    have keepNs : ∀ {L : Addr} {m : Str → Option Value}, s.heap.Ns L m → h0.Ns L m := fun {L m} z => by
      obtain ⟨o, es, ep, e, r⟩ := z
      exact ⟨o, es, ep, hk _ _ e, r⟩
    have neL : s.heap.objs.size ≠ x := Nat.ne_of_gt (Heap.lt_size hx)
    obtain ⟨pl, hev⟩ := hev (ksEnv qual (is1 f) s.heap.objs.size fI (.ref cda) cc)
    refine ks_wpAt_execs_cons (run_super (C := C) (t := t) (us := [v]) (A := A.deeper _) X0 (keepNs hg) hms (keepNs hb) hbs hns hf rfl l1 hx0 hcode hvs hfile hcell hcl I.own.sub ks kc rfl rfl I.own.top I.own.opq I.own.sup I.own.ve I.own.ini
      (by rw [sizeLine_eq]; show 1 ≤ _; decide) (fun s' R' hn' hr => args_cons (wpAny_Name (wpAny_loadName_local rfl kf hn' l2 (args_nil hr)) d1) rfl) rfl rfl rfl hev fun h1 t1 tk1 k1 hx1 => ?_)
    have X1 : K.In h1 := kept_x X0 hnx k1
    have hn1 : h1.Ns s.heap.objs.size (fun y => ([("self", .ref x), (f, v)] : List (Str × Value)).reverse.lookup y) := by
      obtain ⟨o, es, ep, e, r⟩ := hns
      exact ⟨o, es, ep, k1 _ _ neL e, r⟩
    refine wpAt_of_wpAny (wpAny_execs_cons (fld_first X1 hn1 l1 l2 rfl rfl kf d1 hx1 hcl hm hd I.own.sa I.no rfl fun h2 tk2 dx k2 dn dne hx2 hn2 => ?_))
    refine wpAny_execs_nil ?_
    refine hq h2 tk2 t1 dx (fun b o hb e => k2 b o hb (k1 b o hb (hk b o e))) hx2 ?_ dne hn2
    exact Nat.le_trans (Nat.le_of_lt hn1.lt) dn
end
end Xc


set_option Elab.async false
set_option maxRecDepth 100000
set_option maxHeartbeats 4000000
/-! Xc1: two fields; the class called; C(..) as an expression that makes an exception. -/
namespace Xc
open PySem PySem.W PySem.Calls PyProof.Rows PySem.HandSPX
section
variable {prog : Program} {w : PySem.World} {A : Around} {E : Value → Shared → Prop} {K : Frag}
def ia2 (f g : Str) (p q r : Pos) : Arguments := { posonlyargs := [], args := [⟨"self", none, p⟩, ⟨f, none, q⟩, ⟨g, none, r⟩], vararg := none, kwonlyargs := [], kw_defaults := [], kwarg := none, defaults := [] }
def is2 (f g : Str) : Scope := { kind := .function, names := [("self", .local), (f, .local), (g, .local), ("__class__", .free), ("super", .globalImplicit)], isGenerator := false, isCoroutine := false, more := [] }
def ib2 (f g : Str) (p0 p1 p2 p3 p4 e1 e2 a b c d a' b' c' d' : Pos) : List Stmt :=
  [.Expr (.Call (.Attribute (.Call (.Name "super" p0) [] [] p1) "__init__" p2) [.Name f e1, .Name g e2] [] p3) p4, .Assign [.Attribute (.Name "self" a) f b] (.Name f c) d, .Assign [.Attribute (.Name "self" a') g b'] (.Name g c') d']
structure Init2 (K : Frag) (prog : Program) (C fI : Addr) (f g : Str) (qual : Str) : Prop where
  own : Own K prog C fI
  no : findIn K (.ref C) f = some none ∧ findIn K (.ref C) g = some none
  dv : (f == ("__debug__" : Str)) = false ∧ f ≠ "self" ∧ f ≠ "super" ∧ f ≠ "__class__"
  dw : (g == ("__debug__" : Str)) = false ∧ g ≠ "self" ∧ g ≠ "super" ∧ g ≠ "__class__" ∧ f ≠ g
  fn : ∃ (oc doc pm ct : Value) (od an : Option Addr) (osl : Array (Option Value)) (cda cc : Addr) (p q r p0 p1 p2 p3 p4 e1 e2 a b c d a' b' c' d' : Pos) (vs : Array Value) (file : Str) (tf : Tok) (ccl cl : Value) (cdd cld : Option Addr) (ccs csl : Array (Option Value)),
    K.lookup fI = some ⟨oc, od, .func (ksFn "__init__" qual (ia2 f g p q r) (ib2 f g p0 p1 p2 p3 p4 e1 e2 a b c d a' b' c' d') (is2 f g) .none .none doc pm an (.ref cda) ct cc), osl⟩ ∧ codeIn K (.ref cda) qual = true ∧
    K.lookup cda = some ⟨ccl, cdd, .fields vs, ccs⟩ ∧ vs[2]? = some (.str file tf) ∧ ((prog.main.file : Str) == file) = true ∧ K.lookup cc = some ⟨cl, cld, .cell (some (.ref C)), csl⟩ ∧
    (∀ u v z : Value, bindArgs (ksFn "__init__" qual (ia2 f g p q r) (ib2 f g p0 p1 p2 p3 p4 e1 e2 a b c d a' b' c' d') (is2 f g) .none .none doc pm an (.ref cda) ct cc) ⟨[u, v, z], []⟩ = pure [(("self" : Str), u), (f, v), (g, z)]) ∧
    (∀ env : PySem.Env, ∃ pl : Sem Bool, eval (.Call (.Attribute (.Call (.Name "super" p0) [] [] p1) "__init__" p2) [.Name f e1, .Name g e2] [] p3) env = (do
      let ov ← attributeBase (.Call (.Name "super" p0) [] [] p1) "__init__" env (eval (.Call (.Name "super" p0) [] [] p1) env)
      standAt p2.atName
      let (fv, first) ← holding [ov] (getMethod ov "__init__" pl)
      callWith p3 fv first (backTo p3 (starEach [.Name f e1, .Name g e2] env)) []))
theorem look3 {f g : Str} {x v z : Value} (h : f ≠ "self") (k : g ≠ "self") (n : f ≠ g) : ((([("self", x), (f, v), (g, z)] : List (Str × Value)).reverse.lookup ("self" : Str)) = some x) ∧ ((([("self", x), (f, v), (g, z)] : List (Str × Value)).reverse.lookup f) = some v) ∧ ((([("self", x), (f, v), (g, z)] : List (Str × Value)).reverse.lookup g) = some z) := by
  have e : (("self" : Str) == f) = false := by simpa using Ne.symm h
  have e2 : (("self" : Str) == g) = false := by simpa using Ne.symm k
  have e3 : (f == g) = false := by simpa using n
  exact ⟨by simp [List.lookup, e, e2], by simp [List.lookup, e3], by simp [List.lookup]⟩
theorem init2_run {C fI x t : Addr} {f g qual : Str} {mg mb : Str → Option Value} {v z : Value} {R : Result → Shared → Prop} {s : Shared} (I : Init2 K prog C fI f g qual) (X : K.In s.heap) (hnx : K.lookup x = none) (hlim : s.heap.NoLimit) (hg : s.heap.Ns mainGlobals mg) (hms : mg "super" = none)
    (hb : s.heap.Ns builtinsNs mb) (hbs : mb "super" = some (.type "super")) (hx : s.heap.get? x = some (xo C t none)) (hroom : A.depth < recursionLimit)
    (hq : ∀ h' tk t' dx, (∀ b o, b ≠ x → s.heap.get? b = some o → h'.get? b = some o) → h'.get? x = some (xo C t' (some dx)) → s.heap.objs.size ≤ dx → dx ≠ x → h'.Ns1 dx (fun y => if y = g then some z else if y = f then some v else none) → R (.ok (.ret .none)) { s with heap := h', toks := tk }) :
    codeAny (model prog w) A (.call (.ref fI) ⟨[.ref x, v, z], []⟩) R s := by
  obtain ⟨oc, doc, pm, ct, od, an, osl, cda, cc, p, q, r, p0, p1, p2, p3, p4, e1, e2, a, b, c, d, a', b', c', d', vs, file, tf, ccl, cl, cdd, cld, ccs, csl, hf, hcd, hcode, hvs, hfile, hcell, hbd, hev⟩ := I.fn
  obtain ⟨cd, hcl, hm, hd⟩ := I.own.cls
  obtain ⟨d1, d2, d3, d4⟩ := I.dv
  obtain ⟨g1, g2, g3, g4, fg⟩ := I.dw
  obtain ⟨l1, l2, l3⟩ := look3 (x := .ref x) (v := v) (z := z) d2 g2 fg
  have kf : (is2 f g).names.lookup f = some .local := by
    have e : (f == ("self" : Str)) = false := by simpa using d2
    simp [is2, List.lookup, e]
  have kg : (is2 f g).names.lookup g = some .local := by
    have e : (g == ("self" : Str)) = false := by simpa using g2
    have e2 : (g == f) = false := by simpa using Ne.symm fg
    simp [is2, List.lookup, e, e2]
  have ks : (is2 f g).names.lookup ("super" : Str) = some .globalImplicit := by
    have e1 : (("super" : Str) == "self") = false := by decide
    have e2 : (("super" : Str) == f) = false := by simpa using Ne.symm d3
    have e3 : (("super" : Str) == "__class__") = false := by decide
    have e4 : (("super" : Str) == g) = false := by simpa using Ne.symm g3
    simp [is2, List.lookup, e1, e2, e3, e4]
  have kc : (is2 f g).names.lookup ("__class__" : Str) = some .free := by
    have e1 : (("__class__" : Str) == "self") = false := by decide
    have e2 : (("__class__" : Str) == f) = false := by simpa using Ne.symm d4
    have e4 : (("__class__" : Str) == g) = false := by simpa using Ne.symm g4
    simp [is2, List.lookup, e1, e2, e4]
  refine ks_codeAny_call_defAt (fd := ksFn "__init__" qual (ia2 f g p q r) (ib2 f g p0 p1 p2 p3 p4 e1 e2 a b c d a' b' c' d') (is2 f g) .none .none doc pm an (.ref cda) ct cc) (body := ib2 f g p0 p1 p2 p3 p4 e1 e2 a b c d a' b' c' d') (binds := [("self", .ref x), (f, v), (g, z)]) hroom (X _ _ hf) rfl hlim (codeRec_of X hcd) rfl (BindsTo.of_eq (hbd _ _ _)) ?_ ?_ (fun h0 hns hk => ?_)
  · intro y hy
    have hy : y ∈ [(("self" : Str), NameKind.local), (f, .local), (g, .local), ("__class__", .free), ("super", .globalImplicit)] := hy
    simp at hy
    rcases hy with rfl | rfl | rfl | rfl | rfl <;> simp
  · intro y hy
    simp at hy
    rcases hy with rfl | rfl | rfl
    · rfl
    · exact kf
    · exact kg
  · have X0 : K.In h0 := X.keeps hk
    have hx0 := hk _ _ hx
    have keepNs : ∀ {L : Addr} {m : Str → Option Value}, s.heap.Ns L m → h0.Ns L m := fun {L m} z => by
      obtain ⟨o, es, ep, e, r⟩ := z
      exact ⟨o, es, ep, hk _ _ e, r⟩
    have neL : s.heap.objs.size ≠ x := Nat.ne_of_gt (Heap.lt_size hx)
    obtain ⟨pl, hev⟩ := hev (ksEnv qual (is2 f g) s.heap.objs.size fI (.ref cda) cc)
    refine ks_wpAt_execs_cons (run_super (C := C) (t := t) (us := [v, z]) (A := A.deeper _) X0 (keepNs hg) hms (keepNs hb) hbs hns hf rfl l1 hx0 hcode hvs hfile hcell hcl I.own.sub ks kc rfl rfl I.own.top I.own.opq I.own.sup I.own.ve I.own.ini
      (by rw [sizeLine_eq]; show 2 ≤ _; decide) (fun s' R' hn' hr => args_cons (wpAny_Name (wpAny_loadName_local rfl kf hn' l2 (args_cons (wpAny_Name (wpAny_loadName_local rfl kg hn' l3 (args_nil hr)) g1) rfl)) d1) rfl) rfl rfl rfl hev fun h1 t1 tk1 k1 hx1 => ?_)
    have X1 : K.In h1 := kept_x X0 hnx k1
    have hn1 : h1.Ns s.heap.objs.size (fun y => ([("self", .ref x), (f, v), (g, z)] : List (Str × Value)).reverse.lookup y) := by
      obtain ⟨o, es, ep, e, r⟩ := hns
      exact ⟨o, es, ep, k1 _ _ neL e, r⟩
    refine wpAt_of_wpAny (wpAny_execs_cons (fld_first X1 hn1 l1 l2 rfl rfl kf d1 hx1 hcl hm hd I.own.sa I.no.1 rfl fun h2 tk2 dx k2 dn dne hx2 hn2 => ?_))
    have X2 : K.In h2 := kept_x X1 hnx k2
    have hn3 : h2.Ns s.heap.objs.size (fun y => ([("self", .ref x), (f, v), (g, z)] : List (Str × Value)).reverse.lookup y) := by
      obtain ⟨o, es, ep, e, r⟩ := hn1
      exact ⟨o, es, ep, k2 _ _ neL e, r⟩
    have big : s.heap.objs.size < dx := Nat.lt_of_lt_of_le hn1.lt dn
    have hw : Within (fun y => if y = f then some v else none) [f] := fun y hy => by
      by_cases h : y = f
      · subst h; exact List.mem_cons_self
      · have hy' : (if y = f then some v else (none : Option Value)) ≠ none := by
          first | exact hy | (intro q; simp [q] at hy)
        rw [if_neg h] at hy'
        exact absurd rfl hy'
    refine wpAny_execs_cons (fld_more X2 hn3 l1 l3 rfl rfl kg g1 hx2 hn2 hw (by show 1 ≤ 1000; decide) hcl hm hd I.own.sa I.no.2 rfl fun h4 tk4 k4 hn4 => ?_)
    refine wpAny_execs_nil ?_
    refine hq h4 tk4 t1 dx (fun b o hb e => ?_) (k4 _ _ (Ne.symm dne) hx2) (Nat.le_of_lt big) dne hn4
    have e1 := k2 b o hb (k1 b o hb (hk b o e))
    exact k4 b o (fun q => by
      subst q
      exact absurd (Nat.lt_trans (Heap.lt_size e) big) (Nat.lt_irrefl _)) e1
/-! ### the class, called -/
/-- a made exception -/
structure Made (h h' : Heap) (e C d : Addr) (m : Str → Option Value) : Prop where
  keep : ∀ b o, h.get? b = some o → h'.get? b = some o
  new : h.objs.size ≤ e
  obj : ∃ t1, h'.get? e = some (xo C t1 (some d))
  dbig : h.objs.size ≤ d
  dne : d ≠ e
  ns : h'.Ns1 d m
structure ClsObj (K : Frag) (C fI : Addr) : Prop where
  obj : excInitIn K C ([.type "ValueError", .type "Exception", .type "BaseException", .type "object"]) "ValueError.__new__" = true
  init : findIn K (.ref C) "__init__" = some (some (.ref fI))
  fnc : typeIn K (.ref fI) = some (.type "function")
theorem made_gen {C fI : Addr} {mg mb : Str → Option Value} {rest : List Value} {m : Str → Option Value} {R : Result → Shared → Prop} {s : Shared} (T : ClsObj K C fI) (hz : rest.length ≤ sizeLine) (X : K.In s.heap) (hlim : s.heap.NoLimit) (hg : s.heap.Ns mainGlobals mg) (hb : s.heap.Ns builtinsNs mb)
    (run : ∀ {A' : Around} {s' : Shared} {x t : Addr} {R' : Result → Shared → Prop}, K.In s'.heap → K.lookup x = none → s'.heap.NoLimit → s'.heap.Ns mainGlobals mg → s'.heap.Ns builtinsNs mb → s'.heap.get? x = some (xo C t none) → A'.depth < recursionLimit →
      (∀ h' tk t' dx, (∀ b o, b ≠ x → s'.heap.get? b = some o → h'.get? b = some o) → h'.get? x = some (xo C t' (some dx)) → s'.heap.objs.size ≤ dx → dx ≠ x → h'.Ns1 dx m → R' (.ok (.ret .none)) { s' with heap := h', toks := tk }) →
      codeAny (model prog w) A' (.call (.ref fI) ⟨.ref x :: rest, []⟩) R' s') (hroom : A.depth + 1 < recursionLimit)
    (hq : ∀ h' tk e d, Made s.heap h' e C d m → R (.ok (.ret (.ref e))) { s with heap := h', toks := tk }) :
    codeAny (model prog w) A (.call (.ref C) ⟨rest, []⟩) R s := by
  obtain ⟨nm, N', qn, bs, bm, hdct, sn, sub, ab, col, dd, k0, k1, k2, k3, k5, hC, hT⟩ := excInit_of X T.obj
  obtain ⟨hp, g, dr, tk, os⟩ := s
  have k : ∀ b o, hp.get? b = some o → ((hp.push (kdv_tup rest)).push (excO C hp.objs.size)).get? b = some o := fun b o e => Heap.get?_push_of_some _ (Heap.get?_push_of_some _ e)
  have keepNs : ∀ {L : Addr} {m : Str → Option Value}, hp.Ns L m → ((hp.push (kdv_tup rest)).push (excO C hp.objs.size)).Ns L m := fun {L m} z => by
    obtain ⟨o, es, ep, e, r⟩ := z
    exact ⟨o, es, ep, k _ _ e, r⟩
  have hget : ((hp.push (kdv_tup rest)).push (excO C hp.objs.size)).get? (hp.objs.size + 1) = some (excO C hp.objs.size) := by heap_get
  have hnx : K.lookup (hp.objs.size + 1) = none := by
    cases e : K.lookup (hp.objs.size + 1) with
    | none => rfl
    | some o =>
      have z : hp.get? (hp.objs.size + 1) = some o := X _ _ e
      exact absurd (Nat.lt_of_succ_lt (Heap.lt_size z)) (Nat.lt_irrefl _)
  refine call_own F.excBase_ValueError hT hC (looks_findIn X T.init) (fun self => bind_fn X self T.fnc) hz ?_
  refine run (s' := ⟨(hp.push (kdv_tup rest)).push (excO C hp.objs.size), g, dr, tk, os⟩) (X.keeps k) hnx (hlim.keeps k) (keepNs hg) (keepNs hb) hget ?_ fun h' tk' t' dx k' hx dn dne hns => ?_
  · show A.depth + 1 < recursionLimit
    exact hroom
  · have old : ∀ b o, hp.get? b = some o → h'.get? b = some o := fun b o e => k' b o (Nat.ne_of_lt (Nat.lt_succ_of_lt (Heap.lt_size e))) (k b o e)
    have z : hp.objs.size + 1 + 1 ≤ dx := by
      first
        | (simpa only [Heap.size_push] using dn)
        | exact dn
        | (have q := dn; rw [Heap.size_push, Heap.size_push] at q; exact q)
    exact ⟨rfl, hq h' tk' (hp.objs.size + 1) dx ⟨old, Nat.le_succ _, ⟨_, hx⟩, Nat.le_trans (Nat.le_trans (Nat.le_succ _) (Nat.le_succ _)) z, dne, hns⟩⟩
/-- what is to be known of a class that is called -/
structure MkC (K : Frag) (prog : Program) (mg : Str → Option Value) (x : Str) (fs : List Str) (C : Addr) : Prop where
  gC : mg x = some (.ref C)
  kC : keepIn K (.ref C) = true
  exC : subIn K (.ref C) (.type "BaseException") = some true
  tyC : typeIn K (.ref C) = some (.type "type")
  go : ∀ {w : PySem.World} {A : Around} {mb : Str → Option Value} {rest : List Value} {R : Result → Shared → Prop} {s : Shared}, rest.length = fs.length → K.In s.heap → s.heap.NoLimit → s.heap.Ns mainGlobals mg → s.heap.Ns builtinsNs mb → mb "super" = some (.type "super") → A.depth + 1 < recursionLimit →
    (∀ h' tk e d, Made s.heap h' e C d (fun y => (fs.zip rest).lookup y) → R (.ok (.ret (.ref e))) { s with heap := h', toks := tk }) → codeAny (model prog w) A (.call (.ref C) ⟨rest, []⟩) R s
theorem mkC1 {C fI : Addr} {x f qual : Str} {mg : Str → Option Value} (gC : mg x = some (.ref C)) (hms : mg "super" = none) (kC : keepIn K (.ref C) = true) (exC : subIn K (.ref C) (.type "BaseException") = some true) (tyC : typeIn K (.ref C) = some (.type "type")) (T : ClsObj K C fI) (I : Init1 K prog C fI f qual) : MkC K prog mg x [f] C :=
  ⟨gC, kC, exC, tyC, fun {w A mb rest R s} hl X hlim hg hb hbs hroom hq => match rest, hl with
  | [v], _ => by
    have e : (fun y => if y = f then some v else none) = (fun y => (([f] : List Str).zip [v]).lookup y) := by
      funext y
      by_cases h : y = f
      · subst h; simp [List.lookup]
      · have h' : (y == f) = false := by simpa using h
        simp [List.lookup, h, h']
    refine made_gen (mg := mg) (mb := mb) (m := fun y => if y = f then some v else none) T (by rw [sizeLine_eq]; show 1 ≤ _; decide) X hlim hg hb (fun {A' s' x' t R'} a1 a2 a3 a4 a5 a6 a7 a8 => init1_run I a1 a2 a3 a4 hms a5 hbs a6 a7 a8) hroom fun h' tk e' d M => ?_
    rw [e] at M
    exact hq h' tk e' d M⟩
theorem mkC2 {C fI : Addr} {x f g qual : Str} {mg : Str → Option Value} (gC : mg x = some (.ref C)) (hms : mg "super" = none) (kC : keepIn K (.ref C) = true) (exC : subIn K (.ref C) (.type "BaseException") = some true) (tyC : typeIn K (.ref C) = some (.type "type")) (T : ClsObj K C fI) (I : Init2 K prog C fI f g qual) : MkC K prog mg x [f, g] C :=
  ⟨gC, kC, exC, tyC, fun {w A mb rest R s} hl X hlim hg hb hbs hroom hq => match rest, hl with
  | [v, z], _ => by
    have fg := I.dw.2.2.2.2
    have e : (fun y => if y = g then some z else if y = f then some v else none) = (fun y => (([f, g] : List Str).zip [v, z]).lookup y) := by
      funext y
      by_cases h : y = f
      · subst h
        have h2 : y ≠ g := fg
        simp [List.lookup, h2]
      · have h' : (y == f) = false := by simpa using h
        by_cases h3 : y = g
        · subst h3; simp [List.lookup, h']
        · have h4 : (y == g) = false := by simpa using h3
          simp [List.lookup, h, h', h3, h4]
    refine made_gen (mg := mg) (mb := mb) (m := fun y => if y = g then some z else if y = f then some v else none) T (by rw [sizeLine_eq]; show 2 ≤ _; decide) X hlim hg hb (fun {A' s' x' t R'} a1 a2 a3 a4 a5 a6 a7 a8 => init2_run I a1 a2 a3 a4 hms a5 hbs a6 a7 a8) hroom fun h' tk e' d M => ?_
    rw [e] at M
    exact hq h' tk e' d M⟩
end
end Xc
namespace L2N
open PySem PySem.Spec PyProof.Rows L2
theorem rel_zip : ∀ {fs : List Str} {vs : List V} {us : List Value}, Vals vs us → fs.length = vs.length → ∀ f, RelO ((fs.zip vs).lookup f) ((fs.zip us).lookup f)
  | [], _, _, _, _, f => by
    simp [List.lookup]
    trivial
  | x :: fs, _, _, .cons r t, h, f => by
    rw [List.zip_cons_cons, List.zip_cons_cons, List.lookup_cons, List.lookup_cons]
    cases f == x with
    | true => exact r
    | false => exact rel_zip t (by simpa using h) f
/-- C(..) -/
def tMkX (C : Addr) (fs : List Str) (ta : TA) : St → Hp → XK → Prop := fun σ H Q => ta σ H fun vs H1 => vs.length = fs.length ∧ ∀ d, H1 d = none → Q (.ref C) (some d) (upd H1 d (.xd (fs.zip vs)))
theorem pmk_x {X : Cx} {C : Addr} {x : Str} {fs : List Str} {e : Expr} {es : List Expr} {ta : TA} {p pos : Pos} {k : Nat} (T : Xc.MkC X.K X.prog X.mg x fs C) (hr : Room k X.A) (ha : PA X (e :: es) ta) (hg : Gl X x) (hdb : (x == ("__debug__" : Str)) = false)
    (he : starEach (e :: es) X.env = (false, eval e X.env) :: starEach es X.env) (hpl : (backTo pos (starEach es X.env)).any (·.1) = false) :
    PMk X (.Call (.Name x p) (e :: es) [] pos) (tMkX C fs ta) := by
  intro pins s σ H Q I h
  refine wpAny_Call_Name_kw (ld_glob I hg T.gC ?_ hdb)
  refine PySem.W.callWith_K (h₀ := X.base) I.ok.mod.kin T.kC (thn (ha.run pos pins s σ H _ I h) fun us s1 hh => ?_) he hpl
  obtain ⟨vs, H1, I1, r1, hl, q1⟩ := hh
  refine ⟨I1.kIn, ?_⟩
  show wpAny _ _ (call (.ref C) us) _ _ _
  have hlim := I1.nolimit
  have keepNs : ∀ {L : Addr} {m : Str → Option Value}, X.base.Ns L m → s1.heap.Ns L m := fun {L m} z => by
    obtain ⟨o, es, ep, e, r⟩ := z
    exact ⟨o, es, ep, I1.bk _ _ e, r⟩
  obtain ⟨mb, hb1, hb2⟩ := I1.ok.mod.blt
  have hbs : mb "super" = some (.type "super") := (hb2 "super" (by decide)).trans (by decide +kernel)
  have hl2 : us.length = fs.length := by rw [← r1.length]; exact hl
  obtain ⟨hp, g, dr, tk, os⟩ := s1
  refine wpAny_call (T.go hl2 I1.kIn hlim (keepNs I1.ok.mod.glob) (keepNs hb1) hbs (by have := hr.dp; omega) fun h' tk' e d M => ?_)
  show MkP X pins σ Q (.ref e) ⟨h', g, dr, tk', os⟩
  obtain ⟨t1, hoe⟩ := M.obj
  have hns := M.ns
  obtain ⟨G', g1, g2⟩ := restrict h' fun b => decide (b ≠ e)
  have gk : ∀ b, b ≠ e → G'.get? b = h'.get? b := fun b hb => g1 b (decide_eq_true hb)
  have ge : G'.get? e = none := g2 e (by simp)
  have old : ∀ b o, hp.get? b = some o → G'.get? b = some o := fun b o q => (gk b (Nat.ne_of_lt (Nat.lt_of_lt_of_le (Heap.lt_size q) M.new))).trans (M.keep b o q)
  have ob : ObjOk X.prog X.w (upd H1 d (.xd (fs.zip vs))) G' d (.xd (fs.zip vs)) := ⟨_, hns.at (fun o q => (gk d M.dne).trans q), fun f => rel_zip r1 hl.symm f⟩
  have J : Inv X pins σ (upd H1 d (.xd (fs.zip vs))) ⟨G', g, dr, tk', os⟩ := I1.laid (t' := tk') old M.dbig ob
  refine ⟨e, _, _, ⟨G', g, dr, tk', os⟩, _, .ref C, some d, rfl, J, fun b o q => ?_, ge, hoe, ⟨rfl, rfl, fun ws z => by cases z; rfl⟩, rfl, rfl, ?_, rfl, I1.bare, raises_own T.exC T.tyC, q1 d (I1.hok.fresh M.dbig)⟩
  · by_cases hb : b = e
    · have q' : G'.get? b = some o := q
      rw [hb, ge] at q'; cases q'
    · exact (gk b hb).symm.trans q
  · rw [upd_ne (Ne.symm M.dne)]
    exact I1.hok.fresh M.new
end L2N


set_option Elab.async false
set_option maxRecDepth 100000
set_option maxHeartbeats 4000000
/-! Xc2: within an except clause: isinstance of the exception that is handled, its fields; defs that are called there. -/
namespace Xc
open PySem PySem.Spec PySem.W PySem.Calls PyProof.Rows
section
variable {prog : Program} {w : PySem.World} {A : Around} {E : Value → Shared → Prop} {s : Shared} {K : Frag} {x D : Addr} {ox : Obj} {od : Option Obj}
theorem bind_cls (c : L2.ExcC K D) : findObj K D od "__class__" = some (.bind (.builtin "getset_descriptor.__get__") (.builtin "object.__class__")) := by
  obtain ⟨cd, hcd, _⟩ := any_some c.hd
  unfold findObj
  rw [hcd, Option.bind_some, c.ha, Option.bind_some]
  simp [c.hn, c.ht]
/-- x.__class__ -/
theorem ask_cls {Q : Option Value → Shared → Prop} (c : L2.ExcC K D) (X : K.In s.heap) (I : InstAt s.heap x ox D od) (q : Q (some (.ref D)) { s with toks := s.toks + 1 }) :
    wpAny (model prog w) A (getAttr? (.ref x) "__class__") Q E s := by
  have B := bind_cls (od := od) c
  obtain ⟨hh, gg, dr, tk, o2⟩ := s
  have M0 := I.type (M := model prog w)
  have M1 := looks_findIn (M := model prog w) X c.hg
  have M2 := looks_findIn (M := model prog w) X c.hk
  have M3 := looks_find (M := model prog w) X I B
  have isE : Looks (model prog w) hh (isInstance (.ref x) (.type "BaseException")) true :=
    M0.andThen (looks_subIn X c.hs)
  have n0 : (false && onTheHeap (Value.builtin "BaseException.__getattribute__")) = false := rfl
  have n2 : (Value.builtin "BaseException.__getattribute__" == Value.builtin "object.__getattribute__") = false := by decide +kernel
  have n1 : (onTheHeap (Value.ref D) && Value.builtin "BaseException.__getattribute__" == Value.builtin "object.__getattribute__") = false := by rw [n2]; rfl
  unfold getAttr? getAttrBy? getAttrBy
  refine wpAny_bind (wpAny_mkText (wpAny_bind (wpAny_attempt (wpAny_holding (wpAny_bind (M0.at (wpAny_bind (M1.at ?_))))))))
  show wpAny _ _ (if (onTheHeap (Value.ref D) && Value.builtin "BaseException.__getattribute__" == Value.builtin "object.__getattribute__") = true then _ else _) _ _ _
  rw [n1, if_neg Bool.false_ne_true]
  unfold getAttrByItsOwn hookBefore
  refine wpAny_bind ?_
  rw [if_pos (show onTheHeap (Value.ref D) = true from rfl)]
  refine M2.at ?_
  refine wpAny_bind (wpAny_attempt (wpAny_holding ?_))
  unfold callGetattribute
  rw [n0, if_neg Bool.false_ne_true]
  unfold boundAndCalled
  rw [PySem.F.excAttr_ValueError.ga.bind (.ref x)]
  refine wpAny_bind (wpAny_pure ?_)
  show wpAny _ _ (call (.builtin "BaseException.__getattribute__") [.ref x, .str "__class__" tk]) _ _ _
  refine wpAny_call (codeAny_call_builtin PySem.F.excAttr_ValueError.ga.plain PySem.F.entry_bexc_ga ?_)
  refine @check_slot (model prog w) _ _ ⟨hh, gg, dr, tk + 1, o2⟩ "BaseException.__getattribute__" "BaseException" "__getattribute__" (.ref x) [.str "__class__" tk] [] _ (by decide +kernel) (by decide +kernel) isE (PySem.F.args_bexc_ga (.ref x) (.str "__class__" tk)) ?_
  unfold Builtin.«object.__getattribute__»
  refine wpAny_bind (wpAny_of_eq (a := ((Value.ref x : Value), [Value.str "__class__" tk])) (by first | rfl | (simp only [slotArgs]; rfl)) ?_)
  refine wpAny_bind (wpAny_pure (wpAny_bind (M0.at (wpAny_bind (M3.at ?_)))))
  show wpAny _ _ (holding [Value.builtin "object.__class__"] (call (.builtin "getset_descriptor.__get__") [.builtin "object.__class__", .ref x, .ref D]) >>= ret) _ _ _
  refine wpAny_bind (wpAny_holding (wpAny_call (class_get (s := ⟨hh, gg, dr, tk + 1, o2⟩) (ox := ox) (od := od) X I c.hm ?_)))
  refine wpAny_pure ?_
  show wpAny _ _ (handedOut (.ref D)) _ _ _
  rw [handedOut_of (v := .ref D) rfl]
  first
    | exact wpAny_pure (wpAny_pure q)
    | exact wpAny_pure q
    | exact wpAny_pure (wpAny_bind (wpAny_pure (wpAny_pure q)))
theorem kitE (c : L2.ExcC K D) : KitX K (.ref x) (.ref D) (fun h => ∃ od, InstAt h x ox D od) where
  ty := fun _ _ _ ⟨_, I⟩ => I.type
  it := fun _ _ X _ => by
    obtain ⟨cd, hcd, _⟩ := any_some c.hd
    unfold clsIn at hcd
    split at hcd
    · rename_i a b e f ho
      intro A2 Q2 E2 s2 k q
      unfold isType loadHead
      exact wpAny_bind (wpAny_loadPart (k _ _ (X _ _ ho)) (wpAny_pure q))
    · cases hcd
  ne := fun h tp dd its n sl X htp => by
    obtain ⟨cd, hcd, _⟩ := any_some c.hd
    refine Bool.eq_false_iff.mpr fun q => ?_
    have e : D = tp := Value.ref.inj (beq_iff_eq.mp q)
    subst e
    unfold clsIn at hcd
    split at hcd
    · rename_i a b e f ho
      have z := (X _ _ ho).symm.trans htp
      cases z
    · cases hcd
  ca := fun X ⟨_, I⟩ k => ask_cls c X I k
end
end Xc
namespace L2N
open PySem PySem.Spec PyProof.Rows L2
section
variable {X : Cx} {a D dd : Addr} {oe : Obj}
/-- the exception that is handled, known by its pin -/
structure Hand (X : Cx) (a D dd : Addr) (oe : Obj) : Prop where
  pn : (a, oe) ∈ X.pn
  z : Zc (.ref D) (some dd) oe
  fs : ∃ vs, oe.data = .fields vs
theorem Hand.inst {pins : List (Addr × Obj)} {σ : St} {H : Hp} {s : Shared} {fs : List (Str × V)} (h : Hand X a D dd oe) (I : Inv X pins σ H s) (e : H dd = some (.xd fs)) :
    ∃ (od : Obj) (mA : Str → Option Value), PySem.W.InstAt s.heap a oe D (some od) ∧ (∀ n, PySem.W.lookIn n od = some (mA n)) ∧ ∀ f, RelO (fs.lookup f) (mA f) := by
  obtain ⟨mA, hns, hr⟩ := show ObjOk X.prog X.w H s.heap dd (.xd fs) from I.hok dd _ e
  obtain ⟨od, ho, hl⟩ := lookIn_ns hns
  obtain ⟨vs, hd⟩ := h.fs
  obtain ⟨ha, _⟩ := I.pin (a, oe) (List.mem_append_left _ h.pn)
  exact ⟨od, mA, ⟨ha, h.z.1, by unfold PySem.W.notCls; rw [hd] <;> rfl, by rw [h.z.2]; exact ho⟩, hl, hr⟩
/-- isinstance(e, c), e the exception that is handled -/
def rIsX (K : PySem.W.Frag) (D a dd : Addr) : List V → Hp → VK → Prop := fun xs H Q =>
  ∃ (c : V) (cv : Value) (b : Bool) (fs : List (Str × V)), xs = [.ref a, c] ∧ (∀ u, RelV c u → u = cv) ∧ H dd = some (.xd fs) ∧ PySem.W.kitOne K (.ref D) cv = some b ∧ Q (.bl b) H
theorem call_isX (C : ExcC X.K D) (hh : Hand X a D dd oe) : CallR X (.builtin "isinstance") (rIsX X.K D a dd) := by
  intro pins s σ H xs us Q I r h
  obtain ⟨c, cv, b, fs, rfl, hcv, e, ek, q⟩ := h
  match us, r with
  | [_, _], .cons rx (.cons rt .nil) =>
    cases rx
    have ec := hcv _ rt
    subst ec
    obtain ⟨od, mA, J, _, _⟩ := hh.inst I e
    exact PySem.W.kia_one (Xc.kitE C) I.kIn ⟨_, J⟩ ek (fun z => nomatch z) fun tk => ⟨.bl b, H, I.kept (t' := tk) fun _ _ z => z, rfl, q⟩
/-- e.f -/
def tFld (a dd : Addr) (f : Str) (te : TE) : TE := fun σ H Q => te σ H fun x H1 => x = .ref a ∧ ∃ (fs : List (Str × V)) (v : V), H1 dd = some (.xd fs) ∧ fs.lookup f = some v ∧ Q v H1
theorem pe_fld {e : Expr} {te : TE} {pos : Pos} {f : Str} (T : XfC X.K D) (hno : PySem.W.findIn X.K (.ref D) f = some none) (hh : Hand X a D dd oe) (he : PE X e te) (hb : attributeBase e f X.env (eval e X.env) = eval e X.env) :
    PE X (.Attribute e f pos) (tFld a dd f te) := by
  refine ⟨fun pins s σ H Q I h => ?_⟩
  refine attr_of hb (thn (he.run pins s σ H _ I h) fun u s1 z => ?_)
  obtain ⟨x, H1, I1, rx, ex, fs, v, ea, l, q⟩ := z
  subst ex
  obtain rfl : u = Value.ref a := rx
  obtain ⟨od, mA, J, hl, hr⟩ := hh.inst I1 ea
  obtain ⟨u, hu, ru⟩ := RelO.some_of (v := v) (o := mA f) (by rw [← l]; exact hr f)
  exact HandSPX.exc_get I1.kIn J T.ga T.gg T.exC (PySem.W.findObj_own T.hdC hno rfl (by rw [hl, hu])) (handed_of ru) ⟨v, H1, I1.tok _, ru, q⟩
/-- a global, by its address -/
theorem pe_glb {x : Str} {p : Pos} {C : Addr} (hg : Gl X x) (hm : X.mg x = some (.ref C)) (hdb : (x == ("__debug__" : Str)) = false) : PE X (.Name x p) (tC (.ref C)) :=
  ⟨fun pins s σ H Q I h => ld_glob I hg hm ⟨.ref C, H, I, rfl, h⟩ hdb⟩
end
/-! ### defs that are called within an except clause, by the exception p -/
structure FnX (P : Program) (w : PySem.World) (K : PySem.W.Frag) (mg : Str → Option Value) (base : Heap) (CX : CXT) (p : Addr × Obj) (k : Nat) (f : Addr) (fd : FuncData) (ps : List Str) (sp : Sp) : Prop where
  len : ∀ vs H Q E, sp vs H Q E → vs.length = ps.length
  go : ∀ (B : Around) (out : List Env) (s : Shared) (H : Hp) (ar : Args) (us : List Value) (vs : List V) (Q : VK) (E : XK),
    L2H.RoomH k B → L2H.Hot1 B p → L2H.PinOk out H s p → Env0 P w K mg base B out s H → BindsTo s fd ar (ps.zip us) → Vals vs us → sp vs H Q E →
    codeAny (model P w) B (.call (.ref f) ar) (CR CX out P w H s Q E) s
theorem FnX.imp {P : Program} {w : PySem.World} {K : PySem.W.Frag} {mg : Str → Option Value} {base : Heap} {CX : CXT} {p : Addr × Obj} {k : Nat} {f : Addr} {fd : FuncData} {ps : List Str} {sp sp' : Sp} (F : FnX P w K mg base CX p k f fd ps sp) (i : ∀ vs H Q E, sp' vs H Q E → sp vs H Q E) :
    FnX P w K mg base CX p k f fd ps sp' := ⟨fun vs H Q E h => F.len vs H Q E (i _ _ _ _ h), fun B out s H ar us vs Q E a1 a2 a3 a4 a5 a6 h => F.go B out s H ar us vs Q E a1 a2 a3 a4 a5 a6 (i _ _ _ _ h)⟩
theorem fn_ofX {CX : CXT} {P : Program} {w : PySem.World} {K : PySem.W.Frag} {mg : Str → Option Value} {base : Heap} {k : Nat} {f : Addr} {nm qual : Str} {prm : Arguments} {body : List Stmt} {sc : Scope} {dV kV doc pm cdv ct oc : Value} {an od : Option Addr} {osl : Array (Option Value)}
    {N ps : List Str} {sp : Sp} {p : Addr × Obj} (lo : K.lookup f = some ⟨oc, od, .func (PySem.W.fnOf nm qual prm body sc dV kV doc pm an cdv ct), osl⟩) (hcd : PySem.W.codeIn K cdv qual = true) (S : FnScope N ps sc) (len : ∀ vs H Q E, sp vs H Q E → vs.length = ps.length)
    (hb : ∀ (B : Around) (out : List Env) (s : Shared) (H : Hp) (vs : List V) (Q : VK) (E : XK), L2H.Hot1 B p → L2H.RoomH k (B.deeper (envOfC qual sc s.heap.objs.size f cdv)) → sp vs H Q E →
      ∃ t, PSs (L2H.cxH CX P w K mg base N qual sc f cdv B out s H E p) body t ∧ t { nx := fun _ H' => Q .non H', rt := Q } (L2.start N vs) H) :
    FnX P w K mg base CX p (k + 1) f (PySem.W.fnOf nm qual prm body sc dV kV doc pm an cdv ct) ps sp := by
  refine ⟨len, fun B out s H ar us vs Q E rm hot pin e0 bd r h => ?_⟩
  have hl := len _ _ _ _ h
  have KI : K.In s.heap := e0.mod.kin.keeps fun b o z => (e0.bs b o z).1
  have nl : s.heap.NoLimit := e0.mod.nolimit.keeps fun b o z => (e0.bs b o z).1
  have kinds : ∀ y ∈ ps.zip us, sc.names.lookup y.1 = some .local ∨ (sc.names.lookup y.1 = some .cell ∧ ((cellsFrom (s.heap.objs.size + 1) sc.names []).lookup y.1).isSome = true) := by
    rintro ⟨n, v⟩ hy
    rcases S.par n (List.of_mem_zip hy).1 with z | z
    · exact .inl z
    · exact .inr ⟨z, PySem.W.cellsFrom_some _ _ _ (.inl z)⟩
  refine codeAny_call_function rm.depth (KI _ _ lo) rfl S.co S.gen rfl (PySem.W.codeRec_of KI hcd) (bd _ _ _ _ ?_)
  refine wpAny_newFunctionEnv_cells S.kind kinds fun env ev s1 x => ?_
  subst ev
  refine ⟨nl.keeps x.toInCall.keep, codeAny_func ?_⟩
  obtain ⟨t, ht, hq⟩ := hb B out s H vs Q E hot (rm.deeper _) h
  have J := L2H.inv_startH (CX := CX) (E := E) (qual := qual) (f := f) (cd := cdv) S pin e0 hl r x
  refine wpAny_mono (ht.run [] s1 (L2.start N vs) H _ J hq) (fun fl s2 z => ?_) fun _ _ z => z
  have done : ∀ {σ2 : St} {H2 : Hp} {v : V} {u : Value}, Inv (L2H.cxH CX P w K mg base N qual sc f cdv B out s H E p) [] σ2 H2 s2 → RelV v u → Q v H2 → CE out P w H s Q u s2 := by
    intro σ2 H2 v u J2 rv q
    exact ⟨v, H2, J2.os, J2.bare, J2.base, J2.hok, rv, q⟩
  cases fl with
  | next =>
    obtain ⟨_, _, J2, q⟩ := z
    exact done (v := V.non) (u := Value.none) J2 rfl q
  | ret u =>
    obtain ⟨_, _, _, J2, rv, q⟩ := z
    exact done J2 rv q
  | brk =>
    obtain ⟨_, _, _, q⟩ := z
    exact q.elim
  | cont =>
    obtain ⟨_, _, _, q⟩ := z
    exact q.elim
section
variable {X : Cx} {CX : CXT} {k : Nat} {f : Addr} {fd : FuncData} {ps : List Str} {sp : Sp} {E : St → XK} {x : Str} {e : Expr} {es : List Expr} {ta : TA} {p : Addr × Obj} {q pos : Pos}
theorem pe_callX (F : FnX X.prog X.w X.K X.mg X.base CX p k f fd ps sp) (rm : L2H.RoomH k X.A) (hot : L2H.Hot1 X.A p) (hp : p ∈ X.pn) (hg : Gl X x) (hm : X.mg x = some (.ref f)) (hk : PySem.W.keepIn X.K (.ref f) = true) (hb : Binds X.K fd ps []) (hx : ∀ σ, PassesAt CX X σ (E σ)) (ha : PA X (e :: es) ta)
    (hdb : (x == ("__debug__" : Str)) = false) (he : starEach (e :: es) X.env = (false, eval e X.env) :: starEach es X.env) (hpl : (backTo pos (starEach es X.env)).any (·.1) = false) : PE X (.Call (.Name x q) (e :: es) [] pos) (tCallS sp E ta) := by
  refine ⟨fun pins s σ H Q I h => wpAny_Call_Name_kw (ld_glob I hg hm ?_ hdb)⟩
  refine PySem.W.callWith_K (h₀ := X.base) I.ok.mod.kin hk (thn (ha.run pos pins s σ H _ I h) fun us s1 z => ?_) he hpl
  obtain ⟨vs, H1, I1, r, h1⟩ := z
  refine ⟨I1.kIn, ?_⟩
  have hl : us.length = ps.length := (r.length.symm).trans (F.len _ _ _ _ h1)
  have bd := hb s1 us I1.kIn (by rw [List.append_nil]; exact hl)
  rw [List.append_nil] at bd
  have at_ := I1.pin p (List.mem_append_left _ hp)
  have pin : L2H.PinOk X.stack H1 s1 p := ⟨at_.1, at_.2.1, fun hm => (List.mem_cons.mp (I1.stkSub p.1 hm)).elim at_.2.2.1 at_.2.2.2.1, at_.2.2.2.2⟩
  refine wpAny_call (codeAny_mono (F.go X.A X.stack s1 H1 ⟨us, []⟩ us vs Q (E σ) rm hot pin I1.env0 bd r h1) fun rr s2 hq => ?_)
  match rr, hq with
  | .error e, hq => exact hx σ pins H1 s1 e s2 I1 hq
  | .ok (.ret u), hq => exact I1.after hq
  | .ok .next, hq => exact hq.elim
  | .ok .brk, hq => exact hq.elim
  | .ok .cont, hq => exact hq.elim
end
end L2N


set_option Elab.async false
set_option maxRecDepth 100000
set_option maxHeartbeats 2000000
/-! Mi6: expressions: each form's rule. -/
namespace Mi
open PySem L2
/-- a def's promise, by the evaluator -/
def Out (K : PySem.W.Frag) (xs : List Nat) (a : Fs) (H : Hp) (G : Hp) (r : R D) (Q : VK) (Ex : XK) : Prop :=
  Res ⟨K, a, fun _ _ _ => .no, fun cls d _ H' => Ex cls d H', H, G, xs⟩ [] G H r fun d _ G' H' => ∀ v, Rep K a G' d v → Q v H'
def spF (K : PySem.W.Frag) (xs : List Nat) (n : Nat) (h : List D → Gs → R D) : Sp := fun vs H Q Ex => vs.length = n ∧ ∃ (a : Fs) (G : Hp) (g : Gs) (ds : List D), a.er = none ∧ World a g G H ∧ Reps K a G ds vs ∧ Out K xs a H G (h ds g) Q Ex
/-- the exception p is handled: its class by number, its dict -/
structure ErAt (K : PySem.W.Frag) (xs : List Nat) (p : Addr × Obj) (j : Nat) (dd : Addr) : Prop where
  mem : j ∈ xs
  cls : ∃ C, clsA K j = some C ∧ L2N.Zn (.ref C) (some dd) p.2
  fs : ∃ vs, p.2.data = .fields vs
def spX (K : PySem.W.Frag) (xs : List Nat) (p : Addr × Obj) (n : Nat) (h : List D → Gs → R D) : Sp := fun vs H Q Ex => vs.length = n ∧ ∃ (a : Fs) (G : Hp) (g : Gs) (ds : List D) (j : Nat) (dd : Addr), a.er = some (p.1, j, dd) ∧ ErAt K xs p j dd ∧ World a g G H ∧ Reps K a G ds vs ∧ Out K xs a H G (h ds g) Q Ex
def clsNm (j : Nat) : Str := if j = 100 then "OathError" else if j = 101 then "ValueError" else exNm j
/-- the classes of errors, as the written part tells them -/
structure ClsAt (P : Program) (K : PySem.W.Frag) (mg : Str → Option Value) (j : Nat) : Prop where
  at_ : ∃ C, clsA K j = some C ∧ Xc.MkC K P mg (exNm j) (exFs j) C ∧ XfC K C ∧ ExcC K C ∧ ∀ f ∈ exFs j, PySem.W.findIn K (.ref C) f = some none
def clsV (K : PySem.W.Frag) (j : Nat) : Option Value := if j = 101 then some (.type "ValueError") else match PySem.W.nsIn K mainGlobals (clsNm j) with
  | some (some (.ref C)) => some (.ref C)
  | _ => none
structure ClsAll (P : Program) (K : PySem.W.Frag) (mg : Str → Option Value) (xs : List Nat) : Prop where
  at_ : ∀ j ∈ xs, ClsAt P K mg j
  val : ∀ j ∈ 100 :: 101 :: xs, ∃ u, clsV K j = some u ∧ ((∃ C, u = .ref C ∧ mg (clsNm j) = some u) ∨ (u = .type "ValueError" ∧ mg "ValueError" = none ∧ j = 101)) ∧ (clsNm j == ("__debug__" : Str)) = false
  rel : ∀ i ∈ xs, ∀ j ∈ 100 :: 101 :: xs, ∀ C u, clsA K i = some C → clsV K j = some u → PySem.W.kitOne K (.ref C) u = some (isSub i j) ∧ PySem.W.exmOne K (.ref C) u = some (isSub i j)
def blts : List Str := ["len", "tuple", "list", "int", "sum", "all", "any", "max", "min", "abs", "range", "isinstance", "bool", "str"]
structure Tab (P : Program) (w : PySem.World) (K : PySem.W.Frag) (mg : Str → Option Value) (base : Heap) (c : TC) (h : CallF) (k : Nat) : Prop where
  fn : ∀ i x n, c.fns[i]? = some (x, n) → c.hots.contains i = false → ∃ (f : Addr) (fd : FuncData) (ps : List Str), mg x = some (.ref f) ∧ PySem.W.keepIn K (.ref f) = true ∧ Binds K fd ps [] ∧ ps.length = n ∧ (x == ("__debug__" : Str)) = false ∧
    FnOk P w K mg base (L2N.CX P w) k f fd ps (spF K c.xs n (h i))
  fx : ∀ p i x n, c.fns[i]? = some (x, n) → c.hots.contains i = true → ∃ (f : Addr) (fd : FuncData) (ps : List Str), mg x = some (.ref f) ∧ PySem.W.keepIn K (.ref f) = true ∧ Binds K fd ps [] ∧ ps.length = n ∧ (x == ("__debug__" : Str)) = false ∧
    L2N.FnX P w K mg base (L2N.CX P w) p k f fd ps (spX K c.xs p n (h i))
  bi : ∀ x ∈ blts, mg x = none
  ar : ∀ i x n ds g, c.fns[i]? = some (x, n) → ds.length ≠ n → h i ds g = .no
  con : ∀ x n, c.con.lookup x = some n → ∃ t, mg x = some (.int n t)
  cl : ClsAll P K mg c.xs
structure GX (X : Cx) (c : TC) (S : Sx) (k : Nat) : Prop where
  N : X.N = c.N
  nd : c.N.Nodup
  nm : X.env.scope.names = c.nm
  fk : X.env.scope.kind = .function
  calm : c.hot = false → X.calm = true
  rm : L2H.RoomH k X.A
  cold : c.hot = false → Room k X.A ∧ S.a.er = none
  hand : c.hot = true → ∃ (p : Addr × Obj) (j : Nat) (dd : Addr), S.a.er = some (p.1, j, dd) ∧ ErAt S.K S.xs p j dd ∧ L2H.Hot1 X.A p ∧ p ∈ X.pn
  hX : S.xs = c.xs
  hK : X.K = S.K
  tk : L2N.Takes X S.W
  tab : Tab X.prog X.w X.K X.mg X.base c S.c k
  cel : ∀ x ∈ c.cel, X.fn x = true
section
variable {X : Cx} {c : TC} {S : Sx} {k : Nat}
theorem GX.hu (g : GX X c S k) : X.A.units + 64 < cLine := by have := g.rm.un; omega
theorem GX.gl (g : GX X c S k) {x : Str} (h : c.isG x = true) : Gl X x := by
  unfold TC.isG at h
  show X.env.scope.names.lookup x = some .globalImplicit
  rw [g.nm]
  exact of_decide_eq_true (by simpa using h)
theorem TC.slot_vis {x : Str} {i : Nat} (h : c.slot x = some i) : (c.nm.lookup x = some .local ∨ c.nm.lookup x = some .cell ∨ c.nm.lookup x = some .free) ∧ (x == ("__debug__" : Str)) = false ∧ (x == ("__classdict__" : Str)) = false ∧ c.N[i]? = some x := by
  unfold TC.slot at h
  have fin : ∀ {y : Option Nat}, (if (x == ("__debug__" : Str)) = false ∧ (x == ("__classdict__" : Str)) = false then c.N.findIdx? (· == x) else none) = some i → (x == ("__debug__" : Str)) = false ∧ (x == ("__classdict__" : Str)) = false ∧ c.N[i]? = some x := fun {y} h => by
    split at h
    · rename_i hd
      refine ⟨hd.1, hd.2, ?_⟩
      obtain ⟨hi, e, _⟩ := List.findIdx?_eq_some_iff_getElem.mp h
      rw [List.getElem?_eq_getElem hi]
      have : c.N[i] = x := by simpa using e
      rw [this]
    · cases h
  split at h
  · exact ⟨.inl (by assumption), fin (y := none) h⟩
  · exact ⟨.inr (.inl (by assumption)), fin (y := none) h⟩
  · exact ⟨.inr (.inr (by assumption)), fin (y := none) h⟩
  · cases h
theorem snd_var (g : GX X c S k) {x : Str} {i : Nat} {pos : Pos} (h : c.slot x = some i) : PE X (.Name x pos) (tVar i) := by
  obtain ⟨h1, h2, h3, h4⟩ := TC.slot_vis h
  refine pe_var (by rw [g.N]; exact h4) ?_ h2 h3
  unfold Vis
  rw [g.nm]
  exact h1
theorem brw_nm {i : Nat} {ρ : Env} {gs : Gs} : brw (.nm i) ρ gs (ev S.c (.nm i) ρ gs) = match ρ.get i with
    | some (.own ds) => .ok (.lst ds) gs
    | some (.val d) => .ok d gs
    | none => .no := by
  unfold brw
  show (match ρ.get i with | some (.own ds) => R.ok (D.lst ds) gs | _ => ev S.c (.nm i) ρ gs) = _
  unfold ev
  cases ρ.get i with
  | none => rfl
  | some q => cases q <;> rfl
theorem snd_nmB (g : GX X c S k) {x : Str} {i : Nat} {pos : Pos} (h : c.slot x = some i) : PE X (.Name x pos) (tB S (.nm i)) := pe_weak (snd_var g h) fun σ H Q ⟨ρ, G, gs, sl, w, r⟩ => by
  rw [brw_nm] at r
  cases e : ρ.get i with
  | none => rw [e] at r; exact r.elim
  | some q =>
    rw [e] at r
    cases q with
    | val d =>
      obtain ⟨v, e1, rv⟩ := sl.val i d e
      exact ⟨v, e1, Res.here w r v (rv.toB w)⟩
    | own ds =>
      obtain ⟨p, vs, e1, e2, n, gp, _, rs⟩ := sl.own i ds e
      exact ⟨_, e1, Res.here w r _ ⟨p, vs, rfl, e2, n, rs⟩⟩
theorem snd_nm (g : GX X c S k) {x : Str} {i : Nat} {pos : Pos} (h : c.slot x = some i) : PE X (.Name x pos) (tE S (.nm i)) := pe_weak (snd_var g h) fun σ H Q ⟨ρ, G, gs, sl, w, r⟩ => by
  unfold ev at r
  cases e : ρ.get i with
  | none => rw [e] at r; exact r.elim
  | some q =>
    rw [e] at r
    cases q with
    | val d =>
      obtain ⟨v, e1, rv⟩ := sl.val i d e
      exact ⟨v, e1, Res.here w r v rv⟩
    | own ds => exact r.elim
theorem snd_lit {e : Expr} {d : D} {v : V} (h : PE X e (tC v)) (r : ∀ G, Rep S.K S.a G d v) : PE X e (tE S (.lit d)) := pe_weak h fun σ H Q ⟨ρ, G, gs, sl, w, q⟩ => by
  unfold ev at q
  exact Res.here w q v (r G)
theorem snd_tup {es : List Expr} {ms : List E} {x1 pos} (h : PA X es (tL S ms)) : PE X (.Tuple es x1 pos) (tE S (.tup ms)) := pe_weak (pe_tup h) fun σ H Q ⟨ρ, G, gs, sl, w, q⟩ => by
  unfold ev at q
  refine tL.bind sl w q fun ds g1 G1 H1 vs x w1 sl1 r q1 => ?_
  split at q1
  · rename_i hl
    refine ⟨by rw [r.length]; exact hl, fun p hp => ?_⟩
    obtain ⟨x2, w2, f2⟩ := newT w1 hp r
    exact q1 _ _ x2 w2 _ f2
  · exact q1.elim
theorem RepF.back {Hb Hc G H : Hp} {d : D} {v : V} (x : ∀ b, Hc b = none → Hb b = none) (h : RepF S Hc G H d v) : RepF S Hb G H d v := by
  cases d with
  | lst ds =>
    obtain ⟨p, vs, e, q, n, g, b, r⟩ := h
    exact ⟨p, vs, e, q, n, g, x p b, r⟩
  | _ => exact h
theorem snd_lst {es : List Expr} {ms : List E} {pos} (h : PA X es (tL S ms)) : PE X (.List es pos) (tF S (.lst ms)) := pe_weak (pe_lst h) fun σ H Q ⟨ρ, G, gs, sl, w, q⟩ => by
  unfold ev at q
  refine tL.bind sl w q fun ds g1 G1 H1 vs x w1 sl1 r q1 => ?_
  split at q1
  · rename_i hl
    refine ⟨by rw [r.length]; exact hl, fun p hp => ?_⟩
    obtain ⟨x2, w2, f2⟩ := newL w1 hp r
    exact q1 _ _ x2 w2 _ (f2.back x.dm)
  · exact q1.elim
theorem snd_op (g : GX X c S k) {a b : Expr} {ma mb : E} {oo : Operator} {o : Op} {pos} (ho : trOp oo = some o) (ha : PE X a (tB S ma)) (hb : PE X b (tB S mb)) : PE X (.BinOp a oo b pos) (tF S (.op o ma mb)) :=
  pe_weak (pe_op (op_mi g.hK ho) ha hb) fun σ H Q ⟨ρ, G, gs, sl, w, q⟩ => by
  unfold ev at q
  refine tB.bind sl w q fun d1 g1 G1 H1 v1 x1 w1 sl1 r1 q1 => ?_
  refine tB.bind sl1 w1 q1 fun d2 g2 G2 H2 v2 x2 w2 sl2 r2 q2 => ?_
  obtain ⟨z, hz, k2⟩ := Res.of w2 q2
  exact ⟨d1, d2, g2, G2, z, w2, r1.ext x2, r2, hz, fun G' H' v x' w' rv => k2 G' H' x' w' v (rv.back fun b hb => x1.dm b (x2.dm b hb))⟩
theorem snd_neg {a : Expr} {ma : E} {pos} (ha : PE X a (tE S ma)) : PE X (.UnaryOp .USub a pos) (tE S (.neg ma)) := pe_weak (pe_un un_neg ha) fun σ H Q ⟨ρ, G, gs, sl, w, q⟩ => by
  unfold ev at q
  refine tE.bind sl w q fun d1 g1 G1 H1 v1 x1 w1 sl1 r1 q1 => ?_
  split at q1
  · cases r1.inj_int
    exact ⟨_, rfl, Res.here w1 q1 _ (by unfold Rep; rfl)⟩
  · exact q1.elim
theorem snd_cmpR (ma mb : E) (oo : CmpOp) {σ : St} {H : Hp} {Q : VK} (h : tE S (.cmp (trCm oo) ma mb) σ H Q) : tOp (rCmM S (trCm oo)) (tB S ma) (tB S mb) σ H Q := by
  obtain ⟨ρ, G, gs, sl, w, q⟩ := h
  unfold ev at q
  refine tB.bind sl w q fun d1 g1 G1 H1 v1 x1 w1 sl1 r1 q1 => ?_
  refine tB.bind sl1 w1 q1 fun d2 g2 G2 H2 v2 x2 w2 sl2 r2 q2 => ?_
  cases hz : cmpD (trCm oo) d1 d2 with
  | none => rw [hz] at q2; exact q2.elim
  | some z =>
    rw [hz] at q2
    exact ⟨d1, d2, g2, G2, z, w2, r1.ext x2, r2, hz, Res.here w2 q2 _ (by unfold Rep; rfl)⟩
theorem snd_cmp (g : GX X c S k) {a b : Expr} {ma mb : E} {oo : CmpOp} {pos} (hm : behindInMarks oo b = false) (ha : PE X a (tB S ma)) (hb : PE X b (tB S mb)) : PE X (.Compare a [oo] [b] pos) (tE S (.cmp (trCm oo) ma mb)) :=
  pe_weak (pe_cmpR (cmp_mi g.hK g.hu oo) ha hb hm) fun _ _ _ h => snd_cmpR ma mb oo h
/-- an expression's reading where its value is a truth value, as a test -/
theorem tT.toBl {m : E} (hm : ∀ i, m ≠ .nm i) (hb : ∀ ρ g d g', ev S.c m ρ g = .ok d g' → ∃ b, d = .bl b) {σ : St} {H : Hp} {Q : Bool → Hp → Prop} (h : tT S m σ H Q) : tE S m σ H fun x H' => ∃ b, x = .bl b ∧ Q b H' := by
  obtain ⟨ρ, G, gs, sl, w, q⟩ := h
  rw [brw_of hm] at q
  refine ⟨ρ, G, gs, sl, w, ?_⟩
  revert q
  cases e : ev S.c m ρ gs with
  | no => exact id
  | ex _ _ => exact id
  | ok d g1 =>
    intro q G' H' x' w' v rv
    obtain ⟨b, rfl⟩ := hb _ _ _ _ e
    unfold Rep at rv
    subst rv
    obtain ⟨k, e1, q1⟩ := q G' H' x' w'
    cases e1
    exact ⟨_, rfl, q1⟩
theorem cmp_bl {o : Cm} {ma mb : E} : ∀ ρ g d g', ev S.c (.cmp o ma mb) ρ g = .ok d g' → ∃ b, d = .bl b := fun ρ g d g' h => by
  unfold ev at h
  cases e1 : brw ma ρ g (ev S.c ma ρ g) with
  | no => rw [e1] at h; cases h
  | ex _ _ => rw [e1] at h; cases h
  | ok d1 g1 =>
    rw [e1, R.bind_ok] at h
    cases e2 : brw mb ρ g1 (ev S.c mb ρ g1) with
    | no => rw [e2] at h; cases h
    | ex _ _ => rw [e2] at h; cases h
    | ok d2 g2 =>
      rw [e2, R.bind_ok] at h
      cases e3 : cmpD o d1 d2 with
      | none => rw [e3] at h; cases h
      | some z => rw [e3] at h; cases h; exact ⟨_, rfl⟩
theorem snd_cmpT (g : GX X c S k) {a b : Expr} {ma mb : E} {oo : CmpOp} {pos} (hm : behindInMarks oo b = false) (ha : PE X a (tB S ma)) (hb : PE X b (tB S mb)) : PT X (.Compare a [oo] [b] pos) (tT S (.cmp (trCm oo) ma mb)) :=
  pt_weak (pt_cmpR (cmp_mi g.hK g.hu oo) ha hb hm) fun _ _ _ h => snd_cmpR ma mb oo (tT.toBl (fun i => by simp) cmp_bl h)
theorem snd_chainR (ma mb md : E) (oo oo' : CmpOp) {σ : St} {H : Hp} {Q : VK} (h : tE S (.chain (trCm oo) (trCm oo') ma mb md) σ H Q) : tChain (rCmM S (trCm oo)) (rCmM S (trCm oo')) (tE S ma) (tE S mb) (tE S md) σ H Q := by
  obtain ⟨ρ, G, gs, sl, w, q⟩ := h
  unfold ev at q
  refine tE.bind sl w q fun d1 g1 G1 H1 v1 x1 w1 sl1 r1 q1 => ?_
  refine tE.bind sl1 w1 q1 fun d2 g2 G2 H2 v2 x2 w2 sl2 r2 q2 => ?_
  cases hz : cmpD (trCm oo) d1 d2 with
  | none => rw [hz] at q2; exact q2.elim
  | some z =>
    rw [hz] at q2
    refine ⟨d1, d2, g2, G2, z, w2, (r1.toB w1).ext x2, r2.toB w2, hz, z, rfl, ?_⟩
    have q2 : Res S σ G2 H2 (if z = true then (ev S.c md ρ g2).bind fun z g => (R.of (cmpD (trCm oo') d2 z) g).bind fun k' g => .ok (D.bl k') g else .ok (D.bl false) g2) _ := q2
    cases z with
    | false => exact Res.here w2 q2 _ (by unfold Rep; rfl)
    | true =>
      rw [if_pos rfl] at q2 ⊢
      refine tE.bind sl2 w2 q2 fun d3 g3 G3 H3 v3 x3 w3 sl3 r3 q3 => ?_
      cases hz3 : cmpD (trCm oo') d2 d3 with
      | none => rw [hz3] at q3; exact q3.elim
      | some z3 =>
        rw [hz3] at q3
        exact ⟨d2, d3, g3, G3, z3, w3, (r2.toB w2).ext x3, r3.toB w3, hz3, Res.here w3 q3 _ (by unfold Rep; rfl)⟩
theorem snd_chain (g : GX X c S k) {a b d : Expr} {ma mb md : E} {oo oo' : CmpOp} {pos} (hm : lastMarks [oo, oo'] [b, d] = false) (ha : PE X a (tE S ma)) (hb : PE X b (tE S mb)) (hd : PE X d (tE S md)) :
    PE X (.Compare a [oo, oo'] [b, d] pos) (tE S (.chain (trCm oo) (trCm oo') ma mb md)) :=
  pe_weak (pe_chain (cmp_mi g.hK g.hu oo) (cmp_mi g.hK g.hu oo') ha hb hd hm) fun _ _ _ h => snd_chainR ma mb md oo oo' h
theorem chain_bl {o o' : Cm} {ma mb md : E} : ∀ ρ g d g', ev S.c (.chain o o' ma mb md) ρ g = .ok d g' → ∃ b, d = .bl b := fun ρ g d g' h => by
  unfold ev at h
  cases e1 : ev S.c ma ρ g with
  | no => rw [e1] at h; cases h
  | ex _ _ => rw [e1] at h; cases h
  | ok d1 g1 =>
    rw [e1, R.bind_ok] at h
    cases e2 : ev S.c mb ρ g1 with
    | no => rw [e2] at h; cases h
    | ex _ _ => rw [e2] at h; cases h
    | ok d2 g2 =>
      rw [e2, R.bind_ok] at h
      cases e3 : cmpD o d1 d2 with
      | none => rw [e3] at h; cases h
      | some z =>
        rw [e3, R.of_some, R.bind_ok] at h
        cases z with
        | false => cases h; exact ⟨_, rfl⟩
        | true =>
          rw [if_pos rfl] at h
          cases e4 : ev S.c md ρ g2 with
          | no => rw [e4] at h; cases h
          | ex _ _ => rw [e4] at h; cases h
          | ok d3 g3 =>
            rw [e4, R.bind_ok] at h
            cases e5 : cmpD o' d2 d3 with
            | none => rw [e5] at h; cases h
            | some z => rw [e5] at h; cases h; exact ⟨_, rfl⟩
theorem snd_chainT (g : GX X c S k) {a b d : Expr} {ma mb md : E} {oo oo' : CmpOp} {pos} (hm : lastMarks [oo, oo'] [b, d] = false) (ha : PE X a (tE S ma)) (hb : PE X b (tE S mb)) (hd : PE X d (tE S md)) :
    PT X (.Compare a [oo, oo'] [b, d] pos) (tT S (.chain (trCm oo) (trCm oo') ma mb md)) :=
  pt_weak (pt_chain (cmp_mi g.hK g.hu oo) (cmp_mi g.hK g.hu oo') ha hb hd hm) fun _ _ _ h => snd_chainR ma mb md oo oo' (tT.toBl (fun i => by simp) chain_bl h)
end
end Mi


set_option Elab.async false
set_option maxRecDepth 100000
set_option maxHeartbeats 2000000
/-! Mi7: expressions: the rest of the forms but comprehensions. -/
namespace Mi
open PySem L2
section
variable {X : Cx} {c : TC} {S : Sx} {k : Nat}
theorem repE_bl {G : Hp} {b : Bool} {v : V} (h : Rep S.K S.a G (.bl b) v) : v = .bl b := by unfold Rep at h; exact h
theorem rep_bl {G : Hp} {b : Bool} : Rep S.K S.a G (.bl b) (.bl b) := by unfold Rep; rfl
theorem snd_and {a b : Expr} {rest : List Expr} {ma mb : E} {pos} (ha : PE X a (tE S ma)) (hb : PE X (.BoolOp .And (b :: rest) pos) (tE S mb)) : PE X (.BoolOp .And (a :: b :: rest) pos) (tE S (.and ma mb)) :=
  pe_weak (pe_and ha hb) fun σ H Q ⟨ρ, G, gs, sl, w, q⟩ => by
  unfold ev at q
  refine tE.bind sl w q fun d1 g1 G1 H1 v1 x1 w1 sl1 r1 q1 => ?_
  split at q1
  · exact ⟨true, repE_bl r1, by rw [if_pos rfl]; exact ⟨ρ, G1, g1, sl1, w1, q1⟩⟩
  · exact ⟨false, repE_bl r1, by rw [if_neg Bool.false_ne_true]; exact Res.here w1 q1 _ rep_bl⟩
  · exact q1.elim
theorem snd_or {a b : Expr} {rest : List Expr} {ma mb : E} {pos} (ha : PE X a (tE S ma)) (hb : PE X (.BoolOp .Or (b :: rest) pos) (tE S mb)) : PE X (.BoolOp .Or (a :: b :: rest) pos) (tE S (.or ma mb)) :=
  pe_weak (pe_or ha hb) fun σ H Q ⟨ρ, G, gs, sl, w, q⟩ => by
  unfold ev at q
  refine tE.bind sl w q fun d1 g1 G1 H1 v1 x1 w1 sl1 r1 q1 => ?_
  split at q1
  · exact ⟨true, repE_bl r1, by rw [if_pos rfl]; exact Res.here w1 q1 _ rep_bl⟩
  · exact ⟨false, repE_bl r1, by rw [if_neg Bool.false_ne_true]; exact ⟨ρ, G1, g1, sl1, w1, q1⟩⟩
  · exact q1.elim
theorem snd_not {a : Expr} {ma : E} {pos} (ha : PE X a (tE S ma)) : PE X (.UnaryOp .Not a pos) (tE S (.not ma)) :=
  pe_weak (pe_not ha) fun σ H Q ⟨ρ, G, gs, sl, w, q⟩ => by
  unfold ev at q
  refine tE.bind sl w q fun d1 g1 G1 H1 v1 x1 w1 sl1 r1 q1 => ?_
  split at q1
  · exact ⟨_, repE_bl r1, Res.here w1 q1 _ rep_bl⟩
  · exact q1.elim
theorem brw_tand {ma mb : E} {ρ : Env} {gs : Gs} : brw (.tand ma mb) ρ gs (ev S.c (.tand ma mb) ρ gs) = ev S.c (.tand ma mb) ρ gs := rfl
theorem snd_tand {a b : Expr} {rest : List Expr} {ma mb : E} {pos} (ha : PT X a (tT S ma)) (hb : PW X (.BoolOp .And (b :: rest) pos) (tT S mb)) : PW X (.BoolOp .And (a :: b :: rest) pos) (tT S (.tand ma mb)) :=
  pw_weak (pw_and ha hb) fun σ H Q ⟨ρ, G, gs, sl, w, q⟩ => by
  rw [brw_of (fun i => by simp)] at q
  unfold ev at q
  refine tT.bind sl w q fun d1 g1 G1 H1 x1 w1 sl1 q1 => ?_
  split at q1
  · rename_i e1
    refine ⟨true, e1, ?_⟩
    rw [if_pos rfl]
    refine tT.bind sl1 w1 q1 fun d2 g2 G2 H2 x2 w2 sl2 q2 => ?_
    cases e2 : truthG g2 d2 with
    | none => rw [e2] at q2; exact q2.elim
    | some b =>
      rw [e2] at q2
      obtain ⟨b', e3, q3⟩ := Res.here w2 q2
      cases e3
      exact ⟨_, rfl, q3⟩
  · rename_i e1
    refine ⟨false, e1, ?_⟩
    rw [if_neg Bool.false_ne_true]
    obtain ⟨b', e3, q3⟩ := Res.here w1 q1
    cases e3
    exact q3
  · exact q1.elim
theorem snd_tor {a b : Expr} {rest : List Expr} {ma mb : E} {pos} (ha : PT X a (tT S ma)) (hb : PW X (.BoolOp .Or (b :: rest) pos) (tT S mb)) : PW X (.BoolOp .Or (a :: b :: rest) pos) (tT S (.tor ma mb)) :=
  pw_weak (pw_or ha hb) fun σ H Q ⟨ρ, G, gs, sl, w, q⟩ => by
  rw [brw_of (fun i => by simp)] at q
  unfold ev at q
  refine tT.bind sl w q fun d1 g1 G1 H1 x1 w1 sl1 q1 => ?_
  split at q1
  · rename_i e1
    refine ⟨true, e1, ?_⟩
    rw [if_pos rfl]
    obtain ⟨b', e3, q3⟩ := Res.here w1 q1
    cases e3
    exact q3
  · rename_i e1
    refine ⟨false, e1, ?_⟩
    rw [if_neg Bool.false_ne_true]
    refine tT.bind sl1 w1 q1 fun d2 g2 G2 H2 x2 w2 sl2 q2 => ?_
    cases e2 : truthG g2 d2 with
    | none => rw [e2] at q2; exact q2.elim
    | some b =>
      rw [e2] at q2
      obtain ⟨b', e3, q3⟩ := Res.here w2 q2
      cases e3
      exact ⟨_, rfl, q3⟩
  · exact q1.elim
theorem snd_tnot {a : Expr} {ma : E} {pos} (ha : PT X a (tT S ma)) : PT X (.UnaryOp .Not a pos) (tT S (.tnot ma)) :=
  pt_weak (pt_not ha) fun σ H Q ⟨ρ, G, gs, sl, w, q⟩ => by
  rw [brw_of (fun i => by simp)] at q
  unfold ev at q
  refine tT.bind sl w q fun d1 g1 G1 H1 x1 w1 sl1 q1 => ?_
  cases e1 : truthG g1 d1 with
  | none => rw [e1] at q1; exact q1.elim
  | some b =>
    rw [e1] at q1
    obtain ⟨b', e3, q3⟩ := Res.here w1 q1
    cases e3
    exact ⟨_, rfl, q3⟩
theorem snd_ite {t a b : Expr} {mt ma mb : E} {pos} (ht : PT X t (tT S mt)) (ha : PE X a (tE S ma)) (hb : PE X b (tE S mb)) : PE X (.IfExp t a b pos) (tE S (.ite mt ma mb)) :=
  pe_weak (pe_ifExp ht ha hb) fun σ H Q ⟨ρ, G, gs, sl, w, q⟩ => by
  unfold ev at q
  refine tT.bind sl w q fun d1 g1 G1 H1 x1 w1 sl1 q1 => ?_
  split at q1
  · rename_i e1
    exact ⟨true, e1, by rw [if_pos rfl]; exact ⟨ρ, G1, g1, sl1, w1, q1⟩⟩
  · rename_i e1
    exact ⟨false, e1, by rw [if_neg Bool.false_ne_true]; exact ⟨ρ, G1, g1, sl1, w1, q1⟩⟩
  · exact q1.elim
/-- truth of data -/
theorem truth_tru {g : Gs} {G H : Hp} {d : D} {v : V} {b : Bool} (w : World S.a g G H) (h : RepB S G H d v) (e : truth d = some b) : TruV S.K v H b := by
  cases d with
  | non => cases repB_non h; simp [truth] at e; subst e; rfl
  | bl b => cases repB_bl h; simp [truth] at e; subst e; rfl
  | int i => cases repB_int h; simp only [truth, Option.some.injEq] at e; subst e; rfl
  | str x =>
    cases repB_str h
    simp only [truth] at e
    split at e
    · rename_i hl
      cases e
      exact ⟨hl, rfl⟩
    · cases e
  | tup xs =>
    obtain ⟨p, vs, rfl, q1, r1⟩ := repB_tup h
    simp only [truth, Option.some.injEq] at e
    subst e
    exact .inr (.inl ⟨vs, SqT.mono w.sub q1, by rw [r1.isEmpty]⟩)
  | lst xs =>
    obtain ⟨p, vs, rfl, q1, _, r1⟩ := repB_lst h
    simp only [truth, Option.some.injEq] at e
    subst e
    exact .inl ⟨vs, SqL.of q1, by rw [r1.isEmpty]⟩
  | st => simp [truth] at e
  | sub k => simp [truth] at e
  | scr k => simp [truth] at e
  | exn k fs => simp [truth] at e
theorem truthG_tru {g : Gs} {G H : Hp} {d : D} {v : V} {b : Bool} (w : World S.a g G H) (h : RepB S G H d v) (e : truthG g d = some b) : TruV S.K v H b := by
  cases d with
  | sub k =>
    unfold truthG at e
    simp only at e
    split at e
    · rename_i l e1
      cases e
      obtain ⟨p, e2, rfl⟩ := repB_sub h
      obtain ⟨p', e4, e5⟩ := w.at_ e1
      rw [e2] at e4
      cases e4
      exact .inl ⟨_, SqL.of e5, by rw [List.isEmpty_map]⟩
    · cases e
  | _ => exact truth_tru w h e
theorem snd_truth (g : GX X c S k) {a : Expr} {ma : E} (ha : PE X a (tB S ma)) (he : ∀ whole, PySem.isTrue a X.env whole = (do let v ← whole; standAt a.pos; holding [v] (truthy v))) : PT X a (tT S ma) :=
  pt_weak (pt_truth ha he) fun σ H Q ⟨ρ, G, gs, sl, w, q⟩ => ⟨ρ, G, gs, sl, w, q.mono fun d g1 G1 H1 x1 w1 ⟨b, e, q1⟩ v rv => ⟨b, by rw [g.hK]; exact truthG_tru w1 rv e, q1⟩⟩
theorem snd_ix (g : GX X c S k) {a b : Expr} {ma mb : E} {pos} (hs : PlainIx b) (ha : PE X a (tB S ma)) (hb : PE X b (tE S mb)) : PE X (.Subscript a b pos) (tE S (.ix ma mb)) :=
  pe_weak (pe_ix (ix_mi g.hK) ha hb hs) fun σ H Q ⟨ρ, G, gs, sl, w, q⟩ => by
  unfold ev at q
  refine tB.bind sl w q fun d1 g1 G1 H1 v1 x1 w1 sl1 r1 q1 => ?_
  refine tE.bind sl1 w1 q1 fun d2 g2 G2 H2 v2 x2 w2 sl2 r2 q2 => ?_
  obtain ⟨z, hz, k2⟩ := Res.of w2 q2
  exact ⟨d1, d2, g2, G2, z, w2, r1.ext x2, r2, hz, fun v rv => k2 G2 H2 Ext.refl w2 v rv⟩
def tO (S : Sx) (m : E) : TO := fun σ H Q => ∃ ρ G g, Slots S ρ σ G H ∧ World S.a g G H ∧ Res S σ G H (ev S.c m ρ g) fun d _ _ H' => ∃ i, partD d = some i ∧ Q i H'
theorem snd_po0 : PO X none (tO S (.lit .non)) := ⟨fun pins s σ H Q I ⟨ρ, G, gs, sl, w, q⟩ => by
  unfold ev at q
  obtain ⟨i, e, q1⟩ := Res.here w q
  cases e
  exact po_none.run pins s σ H Q I q1⟩
theorem snd_po1 {e : Expr} {m : E} (h : PE X e (tE S m)) : PO X (some e) (tO S (.part m)) := ⟨fun pins s σ H Q I ⟨ρ, G, gs, sl, w, q⟩ => by
  unfold ev at q
  refine (po_some h).run pins s σ H Q I (tE.bind sl w q fun d1 g1 G1 H1 v1 x1 w1 sl1 r1 q1 => ?_)
  split at q1
  · obtain ⟨i, e, q2⟩ := Res.here w1 q1
    cases e
    exact ⟨_, r1.inj_int, q2⟩
  · exact q1.elim⟩
theorem snd_sl (g : GX X c S k) {a : Expr} {lo hi : Option Expr} {ma ml mh : E} {p2 pos} (ha : PE X a (tB S ma)) (hl : PO X lo (tO S ml)) (hh : PO X hi (tO S mh)) : PE X (.Subscript a (.Slice lo hi none p2) pos) (tF S (.sl ma ml mh)) :=
  pe_weak (pe_slice (sl_mi g.hK) ha hl hh) fun σ H Q ⟨ρ, G, gs, sl, w, q⟩ => by
  unfold ev at q
  refine tB.bind sl w q fun d1 g1 G1 H1 v1 x1 w1 sl1 r1 q1 => ?_
  refine ⟨ρ, G1, g1, sl1, w1, Res.step q1 fun d2 g2 G2 H2 x2 w2 q2 => ?_⟩
  split at q2
  · rename_i l e2
    refine ⟨l, e2, ρ, G2, g2, sl1.ext x2, w2, Res.step q2 fun d3 g3 G3 H3 x3 w3 q3 => ?_⟩
    split at q3
    · rename_i h e3
      refine ⟨h, e3, ?_⟩
      obtain ⟨z, hz, k2⟩ := Res.of w3 q3
      exact ⟨d1, g3, G3, z, w3, (r1.ext x2).ext x3, hz, fun G' H' v x' w' rv => k2 G' H' x' w' v (rv.back fun b hb => x1.dm b (x2.dm b (x3.dm b hb)))⟩
    · exact q3.elim
  · exact q2.elim
theorem snd_rev (g : GX X c S k) {e : Expr} {m : E} {kk : Nat} {p1 p2 p3 pos : Pos} (he : PE X e (tB S m)) : PE X (.Subscript e (.Slice none none (some (.UnaryOp .USub (.Constant (.int 1) kk p1) p2)) p3) pos) (tF S (.rev m)) :=
  pe_weak (pe_revL he) fun σ H Q ⟨ρ, G, gs, sl, w, q⟩ => by
  unfold ev at q
  refine tB.bind sl w q fun d1 g1 G1 H1 v1 x1 w1 sl1 r1 q1 => ?_
  split at q1
  · obtain ⟨p, vs, rfl, q2, _, rs⟩ := repB_lst r1
    refine ⟨p, vs, rfl, SqL.of q2, fun p hp => ?_⟩
    obtain ⟨x2, w2, f2⟩ := newL w1 hp rs.reverse
    exact q1 _ _ x2 w2 _ (f2.back x1.dm)
  · exact q1.elim
/-! ### the draws' list is changed -/
theorem World.upRow {a : Fs} {g : Gs} {G H : Hp} (w : World a g G H) (on : a.on = true) (row : List Gc) :
    World a { g with row := row } G (upd H a.s (.lst (row.map (gcV a)))) ∧ Ext a G H G (upd H a.s (.lst (row.map (gcV a)))) := by
  have hs : a.has a.s := ⟨on, .inl rfl⟩
  have gs := w.off _ hs
  refine ⟨⟨fun b o e => ?_, fun _ => upd_same, fun q => (by rw [on] at q; cases q), fun k p xs e1 e2 => ?_, w.hl, w.off, w.ns, w.nd⟩, ⟨Same.refl G, fun b o e => .inl e, fun b o e n => ?_, fun b e => upd_none e⟩⟩
  · rw [upd_ne (ne_of_none e gs)]; exact w.sub b o e
  · have hp : p ≠ a.s := fun z => w.ns (z ▸ List.mem_of_getElem? e1)
    rw [upd_ne hp]; exact w.ht k p xs e1 e2
  · have hb : b ≠ a.s := fun z => n (z ▸ hs)
    rw [upd_ne hb]; exact e
theorem World.upLs {a : Fs} {g : Gs} {G H : Hp} (w : World a g G H) {k : Nat} {p : Addr} (e : a.ts[k]? = some p) (l : List Int) :
    World a { g with ls := g.ls.set k l } G (upd H p (.lst (l.map V.int))) ∧ Ext a G H G (upd H p (.lst (l.map V.int))) := by
  have hp := w.hasT e
  have gp := w.off _ hp
  refine ⟨⟨fun b o e => ?_, fun q => ?_, w.hn, fun j q xs e1 e2 => ?_, by rw [List.length_set]; exact w.hl, w.off, w.ns, w.nd⟩, ⟨Same.refl G, fun b o e => .inl e, fun b o e n => ?_, fun b e => upd_none e⟩⟩
  · rw [upd_ne (ne_of_none e gp)]; exact w.sub b o e
  · have hs : a.s ≠ p := fun z => w.ns (z ▸ List.mem_of_getElem? e)
    rw [upd_ne hs]; exact w.hs q
  · by_cases hj : k = j
    · subst hj
      rw [e] at e1
      cases e1
      have hk : k < g.ls.length := by rw [← w.hl]; exact (List.getElem?_eq_some_iff.mp e).1
      rw [List.getElem?_set_self hk] at e2
      cases e2
      exact upd_same
    · rw [List.getElem?_set_ne hj] at e2
      have hq : q ≠ p := fun z => by
        subst z
        have hk := (List.getElem?_eq_some_iff.mp e)
        have hj2 := (List.getElem?_eq_some_iff.mp e1)
        exact hj ((List.getElem_inj w.nd).mp (hk.2.trans hj2.2.symm))
      rw [upd_ne hq]; exact w.ht j q xs e1 e2
  · have hb : b ≠ p := fun z => n (z ▸ hp)
    rw [upd_ne hb]; exact e
theorem World.on_ {a : Fs} {g : Gs} {G H : Hp} (w : World a g G H) (h : g.row ≠ []) : a.on = true := by
  cases q : a.on with
  | true => rfl
  | false => exact absurd (w.hn q).1 h
/-- a place is set -/
theorem setG_at {g g' : Gs} {G H : Hp} {d e f : D} {x y z : V} (w : World S.a g G H) (rx : Rep S.K S.a G d x) (ry : Rep S.K S.a G e y) (rz : Rep S.K S.a G f z) (h : setG g d e f = some g') :
    ∃ p xs j i, x = .ref p ∧ y = .int j ∧ H p = some (.lst xs) ∧ ixN xs.length j = some i ∧ World S.a g' G (upd H p (.lst (xs.set i z))) ∧ Ext S.a G H G (upd H p (.lst (xs.set i z))) := by
  unfold setG at h
  split at h
  · cases ry.inj_int
    cases rz.inj_int
    cases repB_st (S := S) (H := H) (G := G) rx
    split at h
    · rename_i i e1
      cases h
      have hne : g.row ≠ [] := fun z => by
        rw [z] at e1
        unfold ixN at e1
        repeat' split at e1
        all_goals first | (cases e1; done) | (rename_i h1; simp at h1; omega) | (rename_i h1 h2; simp at h1 h2; omega)
      obtain ⟨a1, a2⟩ := w.upRow (w.on_ hne) (g.row.set i (.num _))
      rw [List.map_set] at a1 a2
      exact ⟨_, _, _, i, rfl, rfl, w.row hne, by rw [List.length_map]; exact e1, a1, a2⟩
    · cases h
  · cases ry.inj_int
    cases rz.inj_int
    obtain ⟨p, e2, rfl⟩ := repB_sub (S := S) (H := H) (G := G) rx
    split at h
    · rename_i l e1
      split at h
      · rename_i i e3
        cases h
        obtain ⟨p', e4, e5⟩ := w.at_ e1
        rw [e2] at e4
        cases e4
        obtain ⟨a1, a2⟩ := w.upLs e2 (l.set i _)
        rw [List.map_set] at a1 a2
        exact ⟨_, _, _, i, rfl, rfl, e5, by rw [List.length_map]; exact e3, a1, a2⟩
      · cases h
    · cases h
  · cases h
theorem popG_at {g g' : Gs} {G H : Hp} {d : D} {v : Int} {x : V} (w : World S.a g G H) (rx : Rep S.K S.a G d x) (h : popG g d = some (v, g')) :
    ∃ p xs, x = .ref p ∧ H p = some (.lst (.int v :: xs)) ∧ World S.a g' G (upd H p (.lst xs)) ∧ Ext S.a G H G (upd H p (.lst xs)) := by
  unfold popG at h
  split at h
  · obtain ⟨p, e2, rfl⟩ := repB_sub (S := S) (H := H) (G := G) rx
    split at h
    · rename_i e1
      cases h
      obtain ⟨p', e4, e5⟩ := w.at_ e1
      rw [e2] at e4
      cases e4
      obtain ⟨a1, a2⟩ := w.upLs e2 _
      exact ⟨_, _, rfl, e5, a1, a2⟩
    · cases h
  · cases h
theorem appG_at {g g' : Gs} {G H : Hp} {d e : D} {x y : V} (w : World S.a g G H) (rx : Rep S.K S.a G d x) (ry : Rep S.K S.a G e y) (h : appG g d e = some g') :
    ∃ p xs, x = .ref p ∧ H p = some (.lst xs) ∧ xs.length < sizeLine ∧ World S.a g' G (upd H p (.lst (xs ++ [y]))) ∧ Ext S.a G H G (upd H p (.lst (xs ++ [y]))) := by
  unfold appG at h
  split at h
  · obtain ⟨p, e2, rfl⟩ := repB_sub (S := S) (H := H) (G := G) rx
    cases ry.inj_int
    split at h
    · rename_i l e1
      split at h
      · rename_i hl
        cases h
        obtain ⟨p', e4, e5⟩ := w.at_ e1
        rw [e2] at e4
        cases e4
        obtain ⟨a1, a2⟩ := w.upLs e2 (l ++ [_])
        rw [List.map_append] at a1 a2
        exact ⟨_, _, rfl, e5, by rw [List.length_map]; exact hl, a1, a2⟩
      · cases h
    · cases h
  · cases h
theorem recv_base {a : Expr} (h : isRecv a = true) (name : Str) (env : PySem.Env) : attributeBase a name env (eval a env) = eval a env := by
  unfold isRecv at h
  split at h
  · rfl
  · rfl
  · rfl
  · cases h
theorem snd_pop {a : Expr} {ma : E} {kk : Nat} {kp apos cpos : Pos} (hr : isRecv a = true) (hl : (apos.endLine == cpos.line) = true) (ha : PE X a (tE S ma)) :
    PE X (.Call (.Attribute a "pop" apos) [.Constant (.int 0) kk kp] [] cpos) (tE S (.pop ma)) :=
  pe_weak (pe_bm PySem.F.plainAttrs_list PySem.F.slot_list_pop PySem.F.type_list_pop mt_popAt ha (pa_cons (pe_int (i := 0)) pa_nil rfl) (recv_base hr _ _) rfl hl rfl rfl) fun σ H Q ⟨ρ, G, gs, sl, w, q⟩ => by
  unfold ev at q
  refine tE.bind sl w q fun d1 g1 G1 H1 v1 x1 w1 sl1 r1 q1 => ?_
  cases hp : popG g1 d1 with
  | none => rw [hp] at q1; exact q1.elim
  | some pr =>
    obtain ⟨v, g2⟩ := pr
    rw [hp] at q1
    obtain ⟨p, xs, rfl, e1, w2, x2⟩ := popG_at w1 r1 hp
    refine ⟨.inl ⟨rfl, _, SqL.of e1⟩, p, _, 0, 0, .int v, rfl, rfl, e1, by decide, by decide, by unfold seqIndex?; simp, rfl, ?_⟩
    exact q1 G1 _ x2 w2 _ (by unfold Rep; rfl)
/-! ### argument lists, calls -/
def notStar : Expr → Bool
  | .Starred _ _ => false
  | _ => true
theorem star_cons {e : Expr} (h : notStar e = true) (es : List Expr) (env : PySem.Env) : starEach (e :: es) env = (false, eval e env) :: starEach es env := by
  cases e <;> first | rfl | (simp [notStar] at h)
theorem star_any {env : PySem.Env} {pos : Pos} : ∀ {es : List Expr}, es.all notStar = true → (backTo pos (starEach es env)).any (·.1) = false
  | [], _ => rfl
  | e :: es, h => by
    rw [List.all_cons, Bool.and_eq_true] at h
    rw [star_cons h.1]
    show (false || (backTo pos (starEach es env)).any (·.1)) = false
    rw [star_any h.2, Bool.false_or]
theorem snd_nil : PA X [] (tL S []) := pa_weak pa_nil fun σ H Q ⟨ρ, G, gs, sl, w, q⟩ => by
  unfold evL at q
  exact Res.here w q [] Reps.nil
theorem snd_cons {e : Expr} {es : List Expr} {m : E} {ms : List E} (hs : notStar e = true) (h : PE X e (tE S m)) (r : PA X es (tL S ms)) : PA X (e :: es) (tL S (m :: ms)) :=
  pa_weak (pa_cons h r (star_cons hs es X.env)) fun σ H Q ⟨ρ, G, gs, sl, w, q⟩ => by
  unfold evL at q
  refine tE.bind sl w q fun d1 g1 G1 H1 v1 x1 w1 sl1 r1 q1 => ?_
  refine tL.bind sl1 w1 q1 fun d2 g2 G2 H2 v2 x2 w2 sl2 r2 q2 => ?_
  exact Res.here w2 q2 _ (Reps.cons (r1.mono x2.gg) r2)
theorem RepsB.ext {G H G' H' : Hp} (x : Ext S.a G H G' H') : ∀ {ds : List D} {vs : List V}, RepsB S G H ds vs → RepsB S G' H' ds vs
  | _, _, .nil => .nil
  | _, _, .cons r t => .cons (r.ext x) (RepsB.ext x t)
theorem snd_nilB : PA X [] (tLB S []) := pa_weak pa_nil fun σ H Q ⟨ρ, G, gs, sl, w, q⟩ => by
  unfold evB at q
  exact Res.here w q [] .nil
theorem snd_consB {e : Expr} {es : List Expr} {m : E} {ms : List E} (hs : notStar e = true) (h : PE X e (tB S m)) (r : PA X es (tLB S ms)) : PA X (e :: es) (tLB S (m :: ms)) :=
  pa_weak (pa_cons h r (star_cons hs es X.env)) fun σ H Q ⟨ρ, G, gs, sl, w, q⟩ => by
  unfold evB at q
  refine tB.bind sl w q fun d1 g1 G1 H1 v1 x1 w1 sl1 r1 q1 => ?_
  refine tLB.bind sl1 w1 q1 fun d2 g2 G2 H2 v2 x2 w2 sl2 r2 q2 => ?_
  exact Res.here w2 q2 _ (.cons (r1.ext x2) r2)
theorem fnIx {c : TC} {x : Str} {i : Nat} (h : c.fns.findIdx? (·.1 == x) = some i) : ∃ n, c.fns[i]? = some (x, n) := by
  obtain ⟨hi, e, _⟩ := List.findIdx?_eq_some_iff_getElem.mp h
  have : c.fns[i].1 = x := by simpa using e
  exact ⟨c.fns[i].2, by rw [List.getElem?_eq_getElem hi]; exact congrArg some (Prod.ext this rfl)⟩
theorem snd_call (g : GX X c S k) {x : Str} {i : Nat} {e : Expr} {es : List Expr} {ms : List E} {p pos : Pos} (hg : c.isG x = true) (hi : c.fns.findIdx? (·.1 == x) = some i) (hh : c.hots.contains i = c.hot) (hs : (e :: es).all notStar = true) (ha : PA X (e :: es) (tL S ms)) :
    PE X (.Call (.Name x p) (e :: es) [] pos) (tE S (.call i ms)) := by
  obtain ⟨n, hn⟩ := fnIx hi
  have hs' : notStar e = true ∧ es.all notStar = true := by rw [List.all_cons, Bool.and_eq_true] at hs; exact hs
  have core : ∀ {ds : List D} {g1 : Gs} {G1 H1 : Hp} {vs : List V} {σ : St} {Q : VK}, Reps S.K S.a G1 ds vs → Res S σ G1 H1 (S.c i ds g1) (fun d _ G' H' => ∀ v, Rep S.K S.a G' d v → Q v H') →
      vs.length = n ∧ Out X.K c.xs S.a H1 G1 (S.c i ds g1) Q (WE S.W σ) := fun {ds g1 G1 H1 vs σ Q} r1 q1 => by
    refine ⟨?_, ?_⟩
    · rw [r1.length]
      by_cases hl : ds.length = n
      · exact hl
      · rw [g.tab.ar i x n ds g1 hn hl] at q1
        exact q1.elim
    · rw [g.hK, ← g.hX]
      unfold Out
      revert q1
      cases S.c i ds g1 with
      | ok d g2 => exact id
      | ex _ _ => exact id
      | no => exact id
  cases hc : c.hot with
  | false =>
    rw [hc] at hh
    obtain ⟨f, fd, ps, h1, h2, h3, h4, h5, F⟩ := g.tab.fn i x n hn hh
    refine pe_weak (pe_callS (E := WE S.W) F (g.cold hc).1 (g.gl hg) h1 h2 h3 (fun σ => L2N.passAt g.tk σ) ha h5 (star_cons hs'.1 es X.env) (star_any hs'.2)) fun σ H Q ⟨ρ, G, gs, sl, w, q⟩ => ?_
    unfold ev at q
    refine tL.bind sl w q fun ds g1 G1 H1 vs x1 w1 sl1 r1 q1 => ?_
    obtain ⟨o1, o2⟩ := core r1 q1
    exact ⟨o1, S.a, G1, g1, ds, (g.cold hc).2, w1, g.hK ▸ r1, o2⟩
  | true =>
    rw [hc] at hh
    obtain ⟨pp, j, dd, e1, e2, e3, e4⟩ := g.hand hc
    obtain ⟨f, fd, ps, h1, h2, h3, h4, h5, F⟩ := g.tab.fx pp i x n hn hh
    refine pe_weak (L2N.pe_callX (E := WE S.W) F g.rm e3 e4 (g.gl hg) h1 h2 h3 (fun σ => L2N.passAt g.tk σ) ha h5 (star_cons hs'.1 es X.env) (star_any hs'.2)) fun σ H Q ⟨ρ, G, gs, sl, w, q⟩ => ?_
    unfold ev at q
    refine tL.bind sl w q fun ds g1 G1 H1 vs x1 w1 sl1 r1 q1 => ?_
    obtain ⟨o1, o2⟩ := core r1 q1
    exact ⟨o1, S.a, G1, g1, ds, j, dd, e1, (by rw [g.hK, ← g.hX]; exact e2), w1, g.hK ▸ r1, o2⟩
/-! ### the exception that is handled -/
theorem GX.handX (g : GX X c S k) (hc : c.hot = true) : ∃ (a : Addr) (j : Nat) (dd C : Addr) (oe : Obj), S.a.er = some (a, j, dd) ∧ j ∈ c.xs ∧ clsA X.K j = some C ∧ L2N.Hand X a C dd oe ∧ XfC X.K C ∧ ExcC X.K C ∧ ∀ f ∈ exFs j, PySem.W.findIn X.K (.ref C) f = some none := by
  obtain ⟨p, j, dd, e1, ⟨m, ⟨C, e2, e3⟩, e4⟩, e5, e6⟩ := g.hand hc
  rw [g.hX] at m
  obtain ⟨C', f1, f2, f3, f4, f5⟩ := (g.tab.cl.at_ j m).at_
  rw [← g.hK] at e2
  rw [e2] at f1
  cases f1
  exact ⟨p.1, j, dd, C, p.2, e1, m, e2, ⟨e6, e3.zc, e4⟩, f3, f4, f5⟩
theorem TC.cls_nm {x : Str} {j : Nat} (h : c.cls x = some j) : c.isG x = true ∧ clsNm j = x ∧ j ∈ 100 :: 101 :: c.xs := by
  unfold TC.cls at h
  split at h
  · rename_i hg
    refine ⟨hg, ?_⟩
    split at h
    · rename_i e
      cases h
      exact ⟨e.symm, List.mem_cons_self⟩
    · split at h
      · rename_i e
        cases h
        exact ⟨e.symm, List.mem_cons_of_mem _ List.mem_cons_self⟩
      · split at h
        · rename_i q hq
          split at h
          · rename_i hm
            cases h
            obtain ⟨hi, e, _⟩ := List.findIdx?_eq_some_iff_getElem.mp hq
            have e : exCls[j].1 = x := by simpa using e
            have hj : j < 13 := hi
            refine ⟨?_, List.mem_cons_of_mem _ (List.mem_cons_of_mem _ (by simpa using hm))⟩
            unfold clsNm
            rw [if_neg (by omega), if_neg (by omega)]
            unfold exNm
            rw [List.getElem?_eq_getElem hi]
            exact e
          · cases h
        · cases h
  · cases h
theorem snd_clsNm (g : GX X c S k) {x : Str} {j : Nat} {p : Pos} (h : c.cls x = some j) : ∃ (u : V) (cv : Value), clsV X.K j = some cv ∧ (∀ z, RelV u z → z = cv) ∧ PE X (.Name x p) (tC u) := by
  obtain ⟨h1, h2, h3⟩ := TC.cls_nm h
  obtain ⟨cv, q1, q2, q3⟩ := g.tab.cl.val j h3
  rw [h2] at q2 q3
  rcases q2 with ⟨C, rfl, q2⟩ | ⟨rfl, q2, rfl⟩
  · exact ⟨.ref C, _, q1, fun z r => r, L2N.pe_glb (g.gl h1) q2 q3⟩
  · subst h2
    exact ⟨.ty "ValueError", _, q1, fun z r => r, pe_bltn (g.gl h1) q2 (by decide +kernel) rfl (by decide +kernel) q3⟩
theorem snd_isx (g : GX X c S k) (hc : c.hot = true) {a : Expr} {x : Str} {j : Nat} {ma : E} {p p2 pos : Pos} (hf : c.isG "isinstance" = true) (hx : c.cls x = some j) (hs : notStar a = true) (ha : PE X a (tE S ma)) :
    PE X (.Call (.Name "isinstance" p) [a, .Name x p2] [] pos) (tE S (.isx ma j)) := by
  obtain ⟨a0, j0, dd, C, oe, e1, e2, e3, hd, xf, ec, hno⟩ := g.handX hc
  obtain ⟨u, cv, k1, k2, k3⟩ := snd_clsNm (p := p2) g hx
  obtain ⟨_, _, h3⟩ := TC.cls_nm hx
  refine pe_weak (pe_callB (L2N.call_isX ec hd) (g.gl hf) (g.tab.bi _ (by decide +kernel)) (by decide +kernel) (pa_cons ha (pa_cons k3 pa_nil (star_cons rfl _ _)) (star_cons hs _ _)) (by decide +kernel) (by decide +kernel) (star_cons hs _ _) (star_any rfl)) fun σ H Q ⟨ρ, G, gs, sl, w, q⟩ => ?_
  unfold ev at q
  refine tE.bind sl w q fun d1 g1 G1 H1 v1 x1 w1 sl1 r1 q1 => ?_
  cases d1 with
  | exn c' fs =>
    unfold Rep at r1
    obtain ⟨a', dd', vs, f1, rfl, f2, _⟩ := r1
    rw [e1] at f1
    cases f1
    have kk := (g.tab.cl.rel j0 e2 j h3 C cv e3 k1).1
    exact ⟨u, cv, isSub j0 j, _, rfl, k2, w1.sub _ _ f2, kk, Res.here w1 q1 _ rep_bl⟩
  | _ => exact q1.elim
theorem lookup_zip : ∀ {fs : List Str} {ds : List D} {vs : List V} {f : Str} {d : D} {K : PySem.W.Frag} {z : Fs} {G : Hp}, Reps K z G ds vs → (fs.zip ds).lookup f = some d → f ∈ fs ∧ ∃ v, (fs.zip vs).lookup f = some v ∧ Rep K z G d v
  | [], _, _, _, _, _, _, _, _, e => by simp at e
  | x :: fs, [], _, _, _, _, _, _, _, e => by simp at e
  | x :: fs, d0 :: ds, _, f, d, K, z, G, h, e => by
    unfold Reps at h
    obtain ⟨v, r, rfl, q, t⟩ := h
    rw [List.zip_cons_cons, List.lookup_cons] at e ⊢
    by_cases hx : (f == x) = true
    · rw [hx] at e ⊢
      cases e
      have hx' : f = x := by simpa using hx
      subst hx'
      exact ⟨List.mem_cons_self, v, rfl, q⟩
    · have hx : (f == x) = false := by simpa using hx
      rw [hx] at e ⊢
      obtain ⟨m, v', e1, r1⟩ := lookup_zip t e
      exact ⟨List.mem_cons_of_mem _ m, v', e1, r1⟩
theorem snd_fld (g : GX X c S k) (hc : c.hot = true) {a : Expr} {f : Str} {ma : E} {pos : Pos} (hr : isRecv a = true) (ha : PE X a (tE S ma)) : PE X (.Attribute a f pos) (tE S (.fld ma f)) := by
  obtain ⟨a0, j0, dd, C, oe, e1, e2, e3, hd, xf, ec, hno⟩ := g.handX hc
  by_cases hm : f ∈ exFs j0
  · refine pe_weak (L2N.pe_fld xf (hno f hm) hd ha (recv_base hr f X.env)) fun σ H Q ⟨ρ, G, gs, sl, w, q⟩ => ?_
    unfold ev at q
    refine tE.bind sl w q fun d1 g1 G1 H1 v1 x1 w1 sl1 r1 q1 => ?_
    cases hz : fldD d1 f with
    | none => rw [hz] at q1; exact q1.elim
    | some d =>
      rw [hz] at q1
      cases d1 with
      | exn c' fs =>
        unfold Rep at r1
        obtain ⟨a', dd', vs, f1, rfl, f2, _, f3⟩ := r1
        rw [e1] at f1
        cases f1
        obtain ⟨_, v, e5, r5⟩ := lookup_zip (fs := exFs j0) f3 hz
        exact ⟨rfl, _, v, w1.sub _ _ f2, e5, Res.here w1 q1 v r5⟩
      | _ => cases hz
  · refine ⟨fun pins s σ H Q I ⟨ρ, G, gs, sl, w, q⟩ => ?_⟩
    unfold ev at q
    refine attr_of (recv_base hr f X.env) (thn (ha.run pins s σ H _ I (tE.bind sl w q fun d1 g1 G1 H1 v1 x1 w1 sl1 r1 q1 => ?_)) fun u s1 (z : EP X pins σ (fun _ _ => False) u s1) => ?_)
    · cases hz : fldD d1 f with
      | none => rw [hz] at q1; exact q1.elim
      | some d =>
        cases d1 with
        | exn c' fs =>
          unfold Rep at r1
          obtain ⟨a', dd', vs, f1, rfl, f2, _, f3⟩ := r1
          rw [e1] at f1
          cases f1
          exact absurd (lookup_zip (fs := exFs j0) f3 hz).1 hm
        | _ => cases hz
    · obtain ⟨_, _, _, _, z⟩ := z
      exact z.elim
/-! ### built-ins by name -/
def BI.name : BI → Str
  | .len => "len"
  | .tuple => "tuple"
  | .list => "list"
  | .int => "int"
  | .sum => "sum"
  | .all => "all"
  | .any => "any"
  | .max2 => "max"
  | .min2 => "min"
  | .abs => "abs"
  | .str => "str"
theorem biOf_name {f : Str} {n : Nat} {b : BI} (h : biOf f n = some b) : f = b.name := by
  unfold biOf at h
  repeat' split at h
  all_goals first | (cases h; done) | (cases h; assumption)
theorem BI.blt (b : BI) : b.name ∈ blts ∧ bootBuiltins b.name = some b.val ∧ b.name ≠ "__name__" ∧ (b.name == ("__debug__" : Str)) = false := by
  cases b <;> exact ⟨by decide +kernel, by decide +kernel, by decide +kernel, by decide +kernel⟩
theorem snd_bi (g : GX X c S k) {x : Str} {b : BI} {e : Expr} {es : List Expr} {ms : List E} {p pos : Pos} (hg : c.isG x = true) (hb : x = b.name) (hh : c.hot = true → biHot b = true) (hs : (e :: es).all notStar = true) (ha : PA X (e :: es) (tLB S ms)) :
    PE X (.Call (.Name x p) (e :: es) [] pos) (tF S (.bi b ms)) := by
  subst hb
  obtain ⟨b1, b2, b3, b4⟩ := b.blt
  have hs' : notStar e = true ∧ es.all notStar = true := by rw [List.all_cons, Bool.and_eq_true] at hs; exact hs
  have main : ∀ σ H Q, tF S (.bi b ms) σ H Q → tCB (rBiM S b) (tLB S ms) σ H Q := fun σ H Q ⟨ρ, G, gs, sl, w, q⟩ => by
    unfold ev at q
    refine tLB.bind sl w q fun ds g1 G1 H1 vs x1 w1 sl1 r1 q1 => ?_
    obtain ⟨z, hz, k2⟩ := Res.of w1 q1
    exact ⟨ds, g1, G1, z, w1, r1, hz, fun G' H' v x' w' rv => k2 G' H' x' w' v (rv.back x1.dm)⟩
  have hm := g.tab.bi _ b1
  have hc := bi_mi (X := X) (S := S) g.hK b fun z => g.calm (by
    cases q : c.hot with
    | false => rfl
    | true => rw [hh q] at z; cases z)
  cases b with
  | tuple => exact pe_weak (pe_callTy hc (g.gl hg) hm b2 ha b3 b4 (star_cons hs'.1 es X.env) (star_any hs'.2)) main
  | list => exact pe_weak (pe_callTy hc (g.gl hg) hm b2 ha b3 b4 (star_cons hs'.1 es X.env) (star_any hs'.2)) main
  | str => exact pe_weak (pe_callTy hc (g.gl hg) hm b2 ha b3 b4 (star_cons hs'.1 es X.env) (star_any hs'.2)) main
  | int => exact pe_weak (pe_callTy hc (g.gl hg) hm b2 ha b3 b4 (star_cons hs'.1 es X.env) (star_any hs'.2)) main
  | _ => exact pe_weak (pe_callB hc (g.gl hg) hm b2 ha b3 b4 (star_cons hs'.1 es X.env) (star_any hs'.2)) main
end
end Mi


set_option Elab.async false
set_option maxRecDepth 100000
set_option maxHeartbeats 2000000
/-! Mi8: isinstance; what is walked; targets; comprehensions. -/
namespace Mi
open PySem L2
section
variable {X : Cx} {c : TC} {S : Sx} {k : Nat}
/-! ### isinstance -/
def Ty.nm : Ty → String
  | .int => "int"
  | .bool => "bool"
  | .str => "str"
  | .list => "list"
  | .tuple => "tuple"
def tyStr : D → String
  | .non => "NoneType"
  | .bl _ => "bool"
  | .int _ => "int"
  | .str _ => "str"
  | .tup _ => "tuple"
  | .lst _ => "list"
  | .st => "list"
  | .sub _ => "list"
  | .scr _ => "list"
  | .exn _ _ => "list"
def plainD : D → Bool
  | .st => false
  | .sub _ => false
  | .scr _ => false
  | .exn _ _ => false
  | _ => true
def okTy (d : D) (t : Ty) : Bool := match isiTy d with
  | some u => tyOk u t
  | none => false
theorem kit_one {K : PySem.W.Frag} (d : D) (hd : plainD d = true) (t : Ty) : PySem.W.kitOne K (.type (tyStr d)) (.type t.nm) = some (okTy d t) := by
  cases d with
  | st => cases hd
  | sub k => cases hd
  | scr k => cases hd
  | exn k fs => cases hd
  | _ => cases t <;> kernel_rfl
theorem kit_any {K : PySem.W.Frag} (d : D) (hd : plainD d = true) : ∀ ts : List Ty, PySem.W.kitAny K (.type (tyStr d)) (ts.map fun t => .type t.nm) = some (ts.any (okTy d))
  | [] => rfl
  | t :: ts => by
    rw [List.map_cons, List.any_cons]
    unfold PySem.W.kitAny
    rw [kit_one d hd t]
    cases okTy d t with
    | true => rfl
    | false => exact kit_any d hd ts
theorem isiD_eq {d : D} {ts : List Ty} {b : Bool} (h : isiD d ts = some b) : plainD d = true ∧ b = ts.any (okTy d) := by
  cases d with
  | non =>
    simp only [isiD, Option.some.injEq] at h
    subst h
    refine ⟨rfl, ?_⟩
    induction ts with
    | nil => rfl
    | cons t ts ih => rw [List.any_cons, ← ih]; rfl
  | st => simp [isiD] at h
  | sub k => simp [isiD] at h
  | scr k => simp [isiD] at h
  | exn k fs => simp [isiD] at h
  | _ =>
    simp only [isiD, isiTy, Option.map_some, Option.some.injEq] at h
    exact ⟨rfl, h.symm⟩
theorem repB_ty {g : Gs} {G H : Hp} {d : D} {v : V} (w : World S.a g G H) (h : RepB S G H d v) (hd : plainD d = true) : TyX S.K H v (.type (tyStr d)) := by
  cases d with
  | non => cases repB_non h; exact .base .non
  | bl b => cases repB_bl h; exact .base (.bl _)
  | int b => cases repB_int h; exact .base (.int _)
  | str b => cases repB_str h; exact .base (.str _)
  | tup b =>
    obtain ⟨p, vs, rfl, q, _⟩ := repB_tup h
    rcases q with (q | ⟨o, q⟩) | ⟨o, its, n, e1, e2, _⟩
    · exact .base (.tup (w.sub _ _ q))
    · exact .fTuple (w.sub _ _ q)
    · exact .kTuple e1 e2
  | lst b =>
    obtain ⟨p, vs, rfl, q, _⟩ := repB_lst h
    exact .base (.lst q)
  | st => cases hd
  | sub k => cases hd
  | scr k => cases hd
  | exn k fs => cases hd
theorem trTy_name {x : Str} {t : Ty} (h : trTy x = some t) : x ∈ blts ∧ bootBuiltins x = some (.type t.nm) ∧ x ≠ "__name__" ∧ (x == ("__debug__" : Str)) = false := by
  unfold trTy at h
  repeat' split at h
  all_goals first | (cases h; done) | (cases h; rename_i e; subst e; exact ⟨by decide +kernel, by decide +kernel, by decide +kernel, by decide +kernel⟩)
theorem snd_tyname (g : GX X c S k) {x : Str} {t : Ty} {pos : Pos} (hg : c.isG x = true) (ht : trTy x = some t) : PE X (.Name x pos) (tC (.ty t.nm)) := by
  obtain ⟨h1, h2, h3, h4⟩ := trTy_name ht
  exact pe_bltn (g.gl hg) (g.tab.bi x h1) h2 rfl h3 h4
def tTys (ts : List Ty) : TA := fun _ H Q => Q (ts.map fun t => V.ty t.nm) H
theorem snd_tys (g : GX X c S k) : ∀ {es : List Expr} {ts : List Ty}, trTys c es = some ts → PA X es (tTys ts)
  | [], ts, h => by
    unfold trTys at h
    cases h
    exact pa_nil
  | e :: es, ts, h => by
    unfold trTys at h
    split at h
    · rename_i e1
      cases e1
    · rename_i x _ r e1
      cases e1
      split at h
      · rename_i hg
        split at h
        · rename_i t ts' h1 h2
          cases h
          exact pa_weak (pa_cons (snd_tyname g hg h1) (snd_tys g h2) (star_cons rfl _ _)) fun σ H Q q => q
        · cases h
      · cases h
    · cases h
theorem cls_all : ∀ ts : List Ty, Paired ClsV (ts.map fun t => V.ty t.nm) (ts.map fun t => Value.type t.nm)
  | [] => .nil
  | t :: ts => .cons (.ty _) (cls_all ts)
theorem isi_blt : ("isinstance" : Str) ∈ blts ∧ bootBuiltins "isinstance" = some (.builtin "isinstance") ∧ ("isinstance" : Str) ≠ "__name__" ∧ (("isinstance" : Str) == ("__debug__" : Str)) = false :=
  ⟨by decide +kernel, by decide +kernel, by decide +kernel, by decide +kernel⟩
theorem snd_isi1 (g : GX X c S k) {a : Expr} {x : Str} {t : Ty} {ma : E} {p p2 pos : Pos} (hf : c.isG "isinstance" = true) (hg : c.isG x = true) (ht : trTy x = some t) (hs : notStar a = true) (ha : PE X a (tB S ma)) :
    PE X (.Call (.Name "isinstance" p) [a, .Name x p2] [] pos) (tE S (.isi ma [t] false)) := by
  obtain ⟨i1, i2, i3, i4⟩ := isi_blt
  refine pe_weak (pe_callB call_isi (g.gl hf) (g.tab.bi _ i1) i2 (pa_cons ha (pa_cons (snd_tyname g hg ht) pa_nil (star_cons rfl _ _)) (star_cons hs _ _)) i3 i4 (star_cons hs _ _) (star_any rfl)) fun σ H Q ⟨ρ, G, gs, sl, w, q⟩ => ?_
  unfold ev at q
  refine tB.bind sl w q fun d1 g1 G1 H1 v1 x1 w1 sl1 r1 q1 => ?_
  cases e1 : isiD d1 [t] with
  | none => rw [e1] at q1; exact q1.elim
  | some b =>
    rw [e1] at q1
    obtain ⟨hd, eb⟩ := isiD_eq e1
    have k1 := kit_one (K := X.K) d1 hd t
    have eb' : okTy d1 t = b := by rw [eb, List.any_cons, List.any_nil, Bool.or_false]
    rw [eb'] at k1
    exact ⟨_, _, _, _, b, rfl, .ty _, g.hK ▸ repB_ty w1 r1 hd, k1, Res.here w1 q1 _ rep_bl⟩
theorem snd_isiT (g : GX X c S k) {a : Expr} {tys : List Expr} {ts : List Ty} {ma : E} {p p2 pos : Pos} {kk : Nat} (hf : c.isG "isinstance" = true) (ht : trTys c tys = some ts) (hz : ts.length ≤ sizeLine) (hs : notStar a = true) (ha : PE X a (tB S ma)) :
    PE X (.Call (.Name "isinstance" p) [a, .Tuple tys kk p2] [] pos) (tE S (.isi ma ts true)) := by
  obtain ⟨i1, i2, i3, i4⟩ := isi_blt
  refine pe_weak (pe_callB call_isiT (g.gl hf) (g.tab.bi _ i1) i2 (pa_cons ha (pa_cons (pe_tup (snd_tys g ht)) pa_nil (star_cons rfl _ _)) (star_cons hs _ _)) i3 i4 (star_cons hs _ _) (star_any rfl)) fun σ H Q ⟨ρ, G, gs, sl, w, q⟩ => ?_
  unfold ev at q
  refine tB.bind sl w q fun d1 g1 G1 H1 v1 x1 w1 sl1 r1 q1 => ?_
  refine ⟨by rw [List.length_map]; exact hz, fun tp hp => ?_⟩
  cases e1 : isiD d1 ts with
  | none => rw [e1] at q1; exact q1.elim
  | some b =>
    rw [e1] at q1
    obtain ⟨hd, eb⟩ := isiD_eq e1
    obtain ⟨x2, w2⟩ := Ext.fresh (o := .tup (ts.map fun t => V.ty t.nm)) w1 hp
    exact ⟨_, tp, _, _, _, b, rfl, upd_same, cls_all ts, g.hK ▸ repB_ty w2 (r1.ext x2) hd, by rw [kit_any d1 hd ts, eb], q1 _ _ x2 w2 _ rep_bl⟩
/-! ### what is walked -/
structure WalkD (S : Sx) (Gx : Hp) (cond : Hp → Hp → Prop) (ds : List D) (J : It) : Prop where
  goes : ∀ i G H, i < ds.length → cond G H → J.go i H
  stops : ∀ G H, cond G H → J.stop ds.length H
  yields : ∀ i H x H' Gc, i < ds.length → cond Gc H → J.yld i H x H' → ∃ d, ds[i]? = some d ∧ ∀ G g, World S.a g G H → Same Gx G → ∃ G', Ext S.a G H G' H' ∧ World S.a g G' H' ∧ Rep S.K S.a G' d x
/-- walked while only new things come -/
def tI (S : Sx) (m : E) : TI := fun σ H R => ∃ ρ G g, Slots S ρ σ G H ∧ World S.a g G H ∧ Res S σ G H (evI S.c m ρ g) fun ds _ G1 H1 => ∀ J, WalkD S G1 (Ext S.a G1 H1) ds J → R J H1
/-- walked while what is known stays -/
def tJ (S : Sx) (m : E) : TI := fun σ H R => ∃ ρ G g, Slots S ρ σ G H ∧ World S.a g G H ∧ Res S σ G H (evJ S.c m ρ g) fun ds _ G1 H1 => ∀ J, WalkD S G1 (fun G H => Same G1 G ∧ Same G H) ds J → R J H1
theorem walkL {Gx : Hp} {cond : Hp → Hp → Prop} {p : Addr} {ds : List D} {vs : List V} (r : Reps S.K S.a Gx ds vs) (hc : ∀ G H, cond G H → SqL S.K H p vs) : WalkD S Gx cond ds (Itl S.K p) := by
  refine ⟨fun i G H hi h => ?_, fun G H h => ?_, fun i H x H' Gc hi h y => ?_⟩
  · have hi' : i < vs.length := by rw [r.length]; exact hi
    exact ⟨vs, vs[i], hc G H h, by simp [hi']⟩
  · exact ⟨vs, hc G H h, by rw [r.length]; exact Nat.le_refl _⟩
  · obtain ⟨e, y⟩ := y
    subst e
    obtain ⟨d, e1, rd⟩ := r.getV (y vs (hc _ _ h))
    exact ⟨d, e1, fun G g w s => ⟨G, Ext.refl, w, rd.mono s⟩⟩
theorem walkT {Gx : Hp} {cond : Hp → Hp → Prop} {p : Addr} {ds : List D} {vs : List V} (r : Reps S.K S.a Gx ds vs) (hc : ∀ G H, cond G H → SqT S.K H p vs) : WalkD S Gx cond ds (Itt S.K p) := by
  refine ⟨fun i G H hi h => ?_, fun G H h => ?_, fun i H x H' Gc hi h y => ?_⟩
  · have hi' : i < vs.length := by rw [r.length]; exact hi
    exact ⟨vs, vs[i], hc G H h, by simp [hi']⟩
  · exact ⟨vs, hc G H h, by rw [r.length]; exact Nat.le_refl _⟩
  · obtain ⟨e, y⟩ := y
    subst e
    obtain ⟨d, e1, rd⟩ := r.getV (y vs (hc _ _ h))
    exact ⟨d, e1, fun G g w s => ⟨G, Ext.refl, w, rd.mono s⟩⟩
theorem walkR {Gx : Hp} {cond : Hp → Hp → Prop} {lo : Int} {n : Nat} : WalkD S Gx cond (rangeD lo n) (Itr lo n) := by
  have hl : (rangeD lo n).length = n := by unfold rangeD; simp
  refine ⟨fun i G H hi _ => by rw [hl] at hi; exact hi, fun G H _ => by rw [hl]; exact Nat.le_refl _, fun i H x H' Gc hi _ y => ?_⟩
  obtain ⟨e, e2⟩ := y
  subst e e2
  rw [hl] at hi
  refine ⟨.int (lo + i), by unfold rangeD; simp [hi], fun G g w s => ⟨G, Ext.refl, w, by unfold Rep; rfl⟩⟩
theorem itemsD_eq {d : D} {xs : List D} (h : itemsD d = some xs) : d = .tup xs ∨ d = .lst xs ∨ ∃ ns, d = .scr ns ∧ xs = ns.map .int := by
  cases d <;> simp [itemsD] at h
  · subst h; exact .inl rfl
  · subst h; exact .inr (.inl rfl)
  · subst h; exact .inr (.inr ⟨_, rfl, rfl⟩)
/-- a list or a tuple: two rules, one of which serves -/
theorem pi_seq {tg l : Expr} {tl : TE} (hl : PE X l tl) : PI X tg l (fun σ H R => tl σ H fun x H1 => (∃ a, x = .ref a ∧ (∃ xs, SqL X.K H1 a xs) ∧ R (Itl X.K a) H1) ∨ (∃ a, x = .ref a ∧ (∃ xs, SqT X.K H1 a xs) ∧ R (Itt X.K a) H1)) := by
  refine ⟨fun pins s σ H R I h => ?_⟩
  refine thn (hl.run pins s σ H _ I h) fun v s1 ⟨x, H1, I1, r1, q1⟩ => ?_
  rcases q1 with ⟨a, e, ⟨xs, hq⟩, q⟩ | ⟨a, e, ⟨xs, hq⟩, q⟩
  · subst e
    cases r1
    obtain ⟨its, rv, p, hz⟩ := I1.list hq
    refine wpAny_pyIter_list p.isList ?_
    refine ⟨s1.heap.objs.size, [s1.heap.objs.size], _, _, H1, rfl, I1.kept (t' := s1.toks) fun b o e => Heap.get?_push_of_some _ e, turn_list a _, ⟨_, Heap.get?_push_size _ rfl, rfl, rfl⟩, fun b hb => ?_, q⟩
    have e : b = s1.heap.objs.size := by simpa using hb
    subst e
    exact I1.fpOk (Nat.le_refl _) (I1.hok.fresh (Nat.le_refl _))
  · subst e
    cases r1
    obtain ⟨its, rv, p, hz⟩ := I1.tuple hq
    refine wpAny_pyIter_tuple (show s1.heap.IsTuple a its.toArray from p) ?_
    refine ⟨s1.heap.objs.size, [s1.heap.objs.size], _, _, H1, rfl, I1.kept (t' := s1.toks) fun b o e => Heap.get?_push_of_some _ e, turn_tuple a _, ⟨_, Heap.get?_push_size _ rfl, rfl, rfl⟩, fun b hb => ?_, q⟩
    have e : b = s1.heap.objs.size := by simpa using hb
    subst e
    exact I1.fpOk (Nat.le_refl _) (I1.hok.fresh (Nat.le_refl _))
theorem snd_iseq (g : GX X c S k) {tg l : Expr} {m : E} (hl : PE X l (tB S m)) : PI X tg l (tI S (.iseq m)) := pi_weak (pi_seq hl) fun σ H R ⟨ρ, G, gs, sl, w, q⟩ => by
  unfold evI at q
  refine tB.bind sl w q fun d1 g1 G1 H1 v1 x1 w1 sl1 r1 q1 => ?_
  obtain ⟨xs, e1, k1⟩ := Res.of w1 q1
  rcases itemsD_eq e1 with e1 | e1 | ⟨ns, e1, e2⟩
  · subst e1
    obtain ⟨p, vs, rfl, q2, rs⟩ := repB_tup r1
    refine .inr ⟨p, rfl, ⟨vs, g.hK ▸ SqT.mono w1.sub q2⟩, ?_⟩
    rw [g.hK]
    exact k1 G1 H1 Ext.refl w1 _ (walkT rs fun G' H' x => by
      rcases q2 with (q2 | ⟨o, q2⟩) | q2
      · exact .inl (.inl (x.kp _ _ (w1.sub _ _ q2) (w1.offH q2)))
      · exact .inl (.inr ⟨o, x.kp _ _ (w1.sub _ _ q2) (w1.offH q2)⟩)
      · exact .inr q2)
  · subst e1
    obtain ⟨p, vs, rfl, q2, n, rs⟩ := repB_lst r1
    refine .inl ⟨p, rfl, ⟨vs, SqL.of q2⟩, ?_⟩
    rw [g.hK]
    exact k1 G1 H1 Ext.refl w1 _ (walkL rs fun G' H' x => SqL.of (x.kp _ _ q2 n))
  · subst e1 e2
    obtain ⟨p, rfl, q2⟩ := repB_scr r1
    refine .inl ⟨p, rfl, ⟨_, g.hK ▸ SqL.mono w1.sub q2⟩, ?_⟩
    rw [g.hK]
    exact k1 G1 H1 Ext.refl w1 _ (walkL (Reps.ofInts _) fun G' H' x => by
      rcases q2 with (q2 | ⟨o, q2⟩) | q2
      · exact .inl (.inl (x.kp _ _ (w1.sub _ _ q2) (w1.offH q2)))
      · exact .inl (.inr ⟨o, x.kp _ _ (w1.sub _ _ q2) (w1.offH q2)⟩)
      · exact .inr q2)
theorem snd_jseq (g : GX X c S k) {tg l : Expr} {m : E} (hl : PE X l (tE S m)) : PI X tg l (tJ S (.iseq m)) := pi_weak (pi_seq hl) fun σ H R ⟨ρ, G, gs, sl, w, q⟩ => by
  unfold evJ at q
  refine tE.bind sl w q fun d1 g1 G1 H1 v1 x1 w1 sl1 r1 q1 => ?_
  obtain ⟨xs, e1, k1⟩ := Res.of w1 q1
  rcases itemsD_eq e1 with e1 | e1 | ⟨ns, e1, e2⟩
  · subst e1
    unfold Rep at r1
    obtain ⟨p, vs, rfl, q2, rs⟩ := r1
    refine .inr ⟨p, rfl, ⟨vs, g.hK ▸ SqT.mono w1.sub q2⟩, ?_⟩
    rw [g.hK]
    exact k1 G1 H1 Ext.refl w1 _ (walkT rs fun G' H' x => SqT.mono (x.1.trans x.2) q2)
  · subst e1
    unfold Rep at r1
    obtain ⟨p, vs, rfl, q2, rs⟩ := r1
    refine .inl ⟨p, rfl, ⟨vs, SqL.of (w1.sub _ _ q2)⟩, ?_⟩
    rw [g.hK]
    exact k1 G1 H1 Ext.refl w1 _ (walkL rs fun G' H' x => SqL.of (x.2 _ _ (x.1 _ _ q2)))
  · subst e1 e2
    unfold Rep at r1
    obtain ⟨p, rfl, q2⟩ := r1
    refine .inl ⟨p, rfl, ⟨_, g.hK ▸ SqL.mono w1.sub q2⟩, ?_⟩
    rw [g.hK]
    exact k1 G1 H1 Ext.refl w1 _ (walkL (Reps.ofInts _) fun G' H' x => SqL.mono (x.1.trans x.2) q2)
theorem fits_iff {i : Int} (h : fits i = true) : -(2 ^ 62) ≤ i ∧ i < 2 ^ 62 := by unfold fits at h; exact of_decide_eq_true h
theorem range_blt : ("range" : Str) ∈ blts := by decide +kernel
theorem rng1_core {a : Expr} {ma : E} {p pos : Pos} {tg : Expr} (g : GX X c S k) (hg : c.isG "range" = true) (hs : notStar a = true) (ha : PE X a (tE S ma)) (t : TI)
    (ht : ∀ σ H R, t σ H R → ∃ ρ G gs, Slots S ρ σ G H ∧ World S.a gs G H ∧ Res S σ G H (evI S.c (.irng1 ma) ρ gs) fun ds _ G1 H1 => ∀ n, ds = rangeD 0 n → R (Itr 0 n) H1) : PI X tg (.Call (.Name "range" p) [a] [] pos) t :=
  pi_weak (pi_range1 (g.gl hg) (g.tab.bi _ range_blt) (pa_cons ha pa_nil (star_cons hs _ _)) (star_cons hs _ _)) fun σ H R h => by
  obtain ⟨ρ, G, gs, sl, w, q⟩ := ht σ H R h
  unfold evI at q
  refine tE.bind sl w q fun d1 g1 G1 H1 v1 x1 w1 sl1 r1 q1 => ?_
  split at q1
  · split at q1
    · rename_i j hf
      cases r1.inj_int
      have f := fits_iff hf
      exact ⟨j, rfl, f.1, f.2, Res.here w1 q1 _ rfl⟩
    · exact q1.elim
  · exact q1.elim
theorem rng2_core {a b : Expr} {ma mb : E} {p pos : Pos} {tg : Expr} (g : GX X c S k) (hg : c.isG "range" = true) (hs : notStar a = true) (hs2 : notStar b = true) (ha : PE X a (tE S ma)) (hb : PE X b (tE S mb)) (t : TI)
    (ht : ∀ σ H R, t σ H R → ∃ ρ G gs, Slots S ρ σ G H ∧ World S.a gs G H ∧ Res S σ G H (evI S.c (.irng2 ma mb) ρ gs) fun ds _ G1 H1 => ∀ lo n, ds = rangeD lo n → R (Itr lo n) H1) : PI X tg (.Call (.Name "range" p) [a, b] [] pos) t :=
  pi_weak (pi_range2 (g.gl hg) (g.tab.bi _ range_blt) (pa_cons ha (pa_cons hb pa_nil (star_cons hs2 _ _)) (star_cons hs _ _)) (by rw [star_cons hs, star_cons hs2]; rfl) (star_cons hs2 _ _)) fun σ H R h => by
  obtain ⟨ρ, G, gs, sl, w, q⟩ := ht σ H R h
  unfold evI at q
  refine tE.bind sl w q fun d1 g1 G1 H1 v1 x1 w1 sl1 r1 q1 => ?_
  refine tE.bind sl1 w1 q1 fun d2 g2 G2 H2 v2 x2 w2 sl2 r2 q2 => ?_
  split at q2
  · split at q2
    · rename_i i j hf
      cases r1.inj_int
      cases r2.inj_int
      rw [Bool.and_eq_true] at hf
      have f1 := fits_iff hf.1
      have f2 := fits_iff hf.2
      exact ⟨i, j, rfl, ⟨f1.1, f1.2, f2.1, f2.2⟩, Res.here w2 q2 _ _ rfl⟩
    · exact q2.elim
  · exact q2.elim
theorem snd_irng1 (g : GX X c S k) {a : Expr} {ma : E} {p pos : Pos} {tg : Expr} (hg : c.isG "range" = true) (hs : notStar a = true) (ha : PE X a (tE S ma)) : PI X tg (.Call (.Name "range" p) [a] [] pos) (tI S (.irng1 ma)) :=
  rng1_core g hg hs ha _ fun σ H R ⟨ρ, G, gs, sl, w, q⟩ => ⟨ρ, G, gs, sl, w, q.mono fun ds _ G1 H1 _ _ h n e => h _ (by subst e; exact walkR)⟩
theorem snd_jrng1 (g : GX X c S k) {a : Expr} {ma : E} {p pos : Pos} {tg : Expr} (hg : c.isG "range" = true) (hs : notStar a = true) (ha : PE X a (tE S ma)) : PI X tg (.Call (.Name "range" p) [a] [] pos) (tJ S (.irng1 ma)) :=
  rng1_core g hg hs ha _ fun σ H R ⟨ρ, G, gs, sl, w, q⟩ => ⟨ρ, G, gs, sl, w, by unfold evJ at q; unfold evI; exact Res.mono q fun ds _ G1 H1 _ _ h n e => h _ (by subst e; exact walkR)⟩
theorem snd_irng2 (g : GX X c S k) {a b : Expr} {ma mb : E} {p pos : Pos} {tg : Expr} (hg : c.isG "range" = true) (hs : notStar a = true) (hs2 : notStar b = true) (ha : PE X a (tE S ma)) (hb : PE X b (tE S mb)) : PI X tg (.Call (.Name "range" p) [a, b] [] pos) (tI S (.irng2 ma mb)) :=
  rng2_core g hg hs hs2 ha hb _ fun σ H R ⟨ρ, G, gs, sl, w, q⟩ => ⟨ρ, G, gs, sl, w, q.mono fun ds _ G1 H1 _ _ h lo n e => h _ (by subst e; exact walkR)⟩
theorem snd_jrng2 (g : GX X c S k) {a b : Expr} {ma mb : E} {p pos : Pos} {tg : Expr} (hg : c.isG "range" = true) (hs : notStar a = true) (hs2 : notStar b = true) (ha : PE X a (tE S ma)) (hb : PE X b (tE S mb)) : PI X tg (.Call (.Name "range" p) [a, b] [] pos) (tJ S (.irng2 ma mb)) :=
  rng2_core g hg hs hs2 ha hb _ fun σ H R ⟨ρ, G, gs, sl, w, q⟩ => ⟨ρ, G, gs, sl, w, by unfold evJ at q; unfold evI; exact Res.mono q fun ds _ G1 H1 _ _ h lo n e => h _ (by subst e; exact walkR)⟩
end
end Mi


set_option Elab.async false
set_option maxRecDepth 100000
set_option maxHeartbeats 2000000
/-! Mi9: targets, comprehensions. -/
namespace Mi
open PySem L2
/-! ### slots that are set -/
theorem Env.get_set {ρ : Env} {i j : Nat} {x : Option Cell} {q : Cell} (h : Env.get (ρ.set i x) j = some q) : (j = i ∧ x = some q ∧ i < ρ.length) ∨ (j ≠ i ∧ ρ.get j = some q) := by
  unfold Env.get at h ⊢
  by_cases e : j = i
  · subst e
    by_cases hl : j < ρ.length
    · rw [List.getElem?_set_self hl] at h
      cases x with
      | none => cases h
      | some y => exact .inl ⟨rfl, h, hl⟩
    · rw [List.getElem?_eq_none (by simpa using hl)] at h
      cases h
  · rw [List.getElem?_set_ne (Ne.symm e)] at h
    exact .inr ⟨e, h⟩
section
variable {S : Sx} {ρ : Env} {σ : St} {G H : Hp}
theorem Slots.wish {W : WX} (h : Slots S ρ σ G H) : Slots { S with W := W } ρ σ G H := ⟨h.len, h.val, h.own, h.sep⟩
theorem Slots.unwish {W : WX} (h : Slots { S with W := W } ρ σ G H) : Slots S ρ σ G H := ⟨h.len, h.val, h.own, h.sep⟩
/-- a slot gets a known value, or is forgotten -/
theorem Slots.set {i : Nat} {x : Option D} {v : Option V} (h : Slots S ρ σ G H) (r : ∀ d, x = some d → ∃ u, v = some u ∧ Rep S.K S.a G d u) : Slots S (ρ.set i (x.map Cell.val)) (σ.set i v) G H := by
  refine ⟨by rw [List.length_set, List.length_set, h.len], fun j d e => ?_, fun j ds e => ?_, fun j l ds es ne e1 e2 => ?_⟩
  · rcases Env.get_set e with ⟨rfl, e1, hl⟩ | ⟨ne, e1⟩
    · cases x with
      | none => cases e1
      | some d' =>
        cases e1
        obtain ⟨u, rfl, ru⟩ := r d rfl
        exact ⟨u, List.getElem?_set_self (by rw [← h.len]; exact hl), ru⟩
    · obtain ⟨u, e2, ru⟩ := h.val j d e1
      exact ⟨u, by rw [List.getElem?_set_ne (Ne.symm ne)]; exact e2, ru⟩
  · rcases Env.get_set e with ⟨rfl, e1, hl⟩ | ⟨ne, e1⟩
    · cases x <;> cases e1
    · obtain ⟨p, vs, e2, k⟩ := h.own j ds e1
      exact ⟨p, vs, by rw [List.getElem?_set_ne (Ne.symm ne)]; exact e2, k⟩
  · rcases Env.get_set e1 with ⟨rfl, z, _⟩ | ⟨n1, z1⟩
    · cases x <;> cases z
    · rcases Env.get_set e2 with ⟨rfl, z, _⟩ | ⟨n2, z2⟩
      · cases x <;> cases z
      · rw [List.getElem?_set_ne (Ne.symm n1), List.getElem?_set_ne (Ne.symm n2)]
        exact h.sep j l ds es ne z1 z2
theorem Slots.setV {i : Nat} {d : D} {v : V} (h : Slots S ρ σ G H) (r : Rep S.K S.a G d v) : Slots S (ρ.set i (some (.val d))) (σ.set i (some v)) G H :=
  h.set (x := some d) (v := some v) fun d' e => by cases e; exact ⟨v, rfl, r⟩
theorem Slots.setN {i : Nat} (h : Slots S ρ σ G H) : Slots S (ρ.set i none) (σ.set i none) G H :=
  h.set (x := none) (v := none) fun d' e => nomatch e
theorem Slots.wipe (h : Slots S ρ σ G H) : ∀ vs : List Nat, Slots S (wipeE ρ vs) (L2.wipe σ vs) G H
  | [] => h
  | v :: vs => by
    unfold wipeE L2.wipe
    exact (Slots.wipe h vs).setN
end
theorem wipe_get {σ : St} {j : Nat} : ∀ vs : List Nat, (wipe σ vs)[j]? = if j ∈ vs then (σ[j]?).map (fun _ => none) else σ[j]?
  | [] => by simp [wipe]
  | v :: vs => by
    unfold wipe
    by_cases e : j = v
    · subst e
      rw [if_pos List.mem_cons_self]
      by_cases hl : j < σ.length
      · rw [List.getElem?_set_self (by rw [wipe_length]; exact hl), List.getElem?_eq_getElem hl]; rfl
      · rw [List.getElem?_eq_none (by rw [List.length_set, wipe_length]; omega), List.getElem?_eq_none (by omega)]; rfl
    · rw [List.getElem?_set_ne (Ne.symm e), wipe_get vs]
      by_cases hv : j ∈ vs
      · rw [if_pos hv, if_pos (List.mem_cons_of_mem _ hv)]
      · rw [if_neg hv, if_neg (by simp [e, hv])]
theorem wipe_set {σ : St} {i : Nat} {x : Option V} {vs : List Nat} (h : i ∈ vs) : wipe (σ.set i x) vs = wipe σ vs := by
  apply List.ext_getElem?
  intro j
  rw [wipe_get, wipe_get]
  by_cases e : j = i
  · subst e
    rw [if_pos h, if_pos h]
    by_cases hl : j < σ.length
    · rw [List.getElem?_set_self hl, List.getElem?_eq_getElem hl]; rfl
    · rw [List.getElem?_eq_none (by rw [List.length_set]; omega), List.getElem?_eq_none (by omega)]
  · rw [List.getElem?_set_ne (Ne.symm e)]
theorem wipe_wipe {σ : St} {vs : List Nat} : wipe (wipe σ vs) vs = wipe σ vs := by
  apply List.ext_getElem?
  intro j
  rw [wipe_get, wipe_get]
  split
  · cases σ[j]? <;> rfl
  · rfl
/-! ### targets -/
def gNames : List Nat → TGs
  | [] => gNil
  | i :: is => gCons (gName i) (gNames is)
def gTg (K : PySem.W.Frag) : Tg → TG
  | .nm i => gName i
  | .tup is => gTup K is.length (gNames is)
section
variable {X : Cx} {c : TC} {S : Sx} {k : Nat}
theorem TC.tgt_ok {x : Str} {i : Nat} (h : c.tgt x = some i) : (c.nm.lookup x = some .local ∨ (c.nm.lookup x = some .cell ∧ x ∈ c.cel)) ∧ c.N[i]? = some x := by
  have fin : ∀ {i : Nat}, c.N.findIdx? (· == x) = some i → c.N[i]? = some x := fun {i} h => by
    obtain ⟨hi, e, _⟩ := List.findIdx?_eq_some_iff_getElem.mp h
    rw [List.getElem?_eq_getElem hi]
    have : c.N[i] = x := by simpa using e
    rw [this]
  unfold TC.tgt at h
  split at h
  · exact ⟨.inl (by assumption), fin h⟩
  · split at h
    · rename_i hc
      exact ⟨.inr ⟨by assumption, by simpa using hc⟩, fin h⟩
    · cases h
  · cases h
theorem GX.store (g : GX X c S k) {x : Str} {i : Nat} (h : c.tgt x = some i) : X.N.Nodup ∧ X.N[i]? = some x ∧ L2.Loc X.env.scope x ∧ (X.fn x = true ∨ X.env.scope.names.lookup x = some .local) := by
  obtain ⟨h1, h2⟩ := TC.tgt_ok h
  refine ⟨by rw [g.N]; exact g.nd, by rw [g.N]; exact h2, ?_, ?_⟩
  · unfold L2.Loc
    rw [g.nm]
    rcases h1 with z | ⟨z, _⟩
    · exact .inl z
    · exact .inr z
  · rw [g.nm]
    rcases h1 with z | ⟨_, z⟩
    · exact .inr z
    · exact .inl (g.cel x z)
theorem snd_tgN (g : GX X c S k) {x : Str} {i : Nat} {p : Pos} (h : c.tgt x = some i) : PG X (.Name x p) (gName i) := by
  obtain ⟨h1, h2, h3, h4⟩ := g.store h
  exact pg_name h1 h2 h3 h4
theorem each_names {env : PySem.Env} : ∀ {es : List Expr} {is : List Nat}, trTgs c es = some is → (assignEach es env).length = is.length ∧ (assignEach es env).findIdx? (·.1) = none ∧ ∀ x p r, es = .Name x p :: r → (assignEach es env).map (·.2) = assign (.Name x p) env :: (assignEach r env).map (·.2)
  | [], is, h => by
    unfold trTgs at h
    cases h
    exact ⟨rfl, rfl, fun _ _ _ e => nomatch e⟩
  | e :: es, is, h => by
    unfold trTgs at h
    split at h
    · rename_i e1; cases e1
    · rename_i x p r e1
      cases e1
      split at h
      · rename_i i is' h1 h2
        cases h
        obtain ⟨l1, l2, _⟩ := each_names (env := env) h2
        refine ⟨?_, ?_, fun x' p' r' e2 => ?_⟩
        · show (assignEach es env).length + 1 = _
          rw [l1]; rfl
        · show List.findIdx? (·.1) ((false, assign (.Name x p) env) :: assignEach es env) = none
          rw [List.findIdx?_cons, l2]; rfl
        · cases e2; rfl
      · cases h
    · cases h
theorem snd_tgs (g : GX X c S k) : ∀ {es : List Expr} {is : List Nat}, trTgs c es = some is → PGs X es (gNames is)
  | [], is, h => by
    unfold trTgs at h
    cases h
    exact pgs_nil
  | e :: es, is, h => by
    have h0 := h
    unfold trTgs at h
    split at h
    · rename_i e1; cases e1
    · rename_i x p r e1
      cases e1
      split at h
      · rename_i i is' h1 h2
        cases h
        exact pgs_cons (snd_tgN g h1) (snd_tgs g h2) ((each_names h0).2.2 _ _ _ rfl)
      · cases h
    · cases h
theorem snd_tg (g : GX X c S k) {e : Expr} {tg : Tg} (h : trTg c e = some tg) : PG X e (gTg X.K tg) := by
  unfold trTg at h
  split at h
  · obtain ⟨i, h1, rfl⟩ := Option.map_eq_some_iff.mp h
    exact snd_tgN g h1
  · split at h
    · cases h
    rename_i hc
    obtain ⟨is, h1, rfl⟩ := Option.map_eq_some_iff.mp h
    exact pg_tup (g.calm (by simpa using hc)) (snd_tgs g h1) (each_names h1).1 (each_names h1).2.1
  · cases h
theorem gNames_of {ρ1 : Env} : ∀ {is : List Nat} {ds : List D} {vs : List V} {ρ : Env} {σ : St} {G H : Hp} {Q : St → Hp → Prop}, Reps S.K S.a G ds vs → ds.length = is.length → setAll ρ is ds = ρ1 →
    (∀ σ1, (∀ G2 H2, Same G G2 → Slots S ρ σ G2 H2 → Slots S ρ1 σ1 G2 H2) → (∀ own : List Nat, is.all own.contains = true → wipe σ1 own = wipe σ own) → Q σ1 H) → gNames is vs σ H Q
  | [], ds, vs, ρ, σ, G, H, Q, r, hl, e, k => by
    cases ds with
    | nil =>
      unfold Reps at r
      subst r
      unfold setAll at e
      subst e
      exact ⟨rfl, k σ (fun _ _ _ h => h) fun _ _ => rfl⟩
    | cons d ds => simp at hl
  | i :: is, ds, vs, ρ, σ, G, H, Q, r, hl, e, k => by
    cases ds with
    | nil => simp at hl
    | cons d ds =>
      unfold Reps at r
      obtain ⟨v, rr, rfl, q, t⟩ := r
      unfold setAll at e
      refine ⟨v, rr, rfl, ?_⟩
      refine gNames_of t (by simpa using hl) e fun σ1 s1 hw => k σ1 (fun G2 H2 s h => s1 G2 H2 s (h.setV (q.mono s))) fun own ho => ?_
      rw [List.all_cons, Bool.and_eq_true] at ho
      rw [hw own ho.2]
      exact wipe_set (by simpa using ho.1)
theorem gTg_of {ρ ρ1 : Env} {σ : St} {G H : Hp} {d : D} {v : V} {tg : Tg} {Q : St → Hp → Prop} (w : Same G H) (r : Rep S.K S.a G d v) (hb : bindTg ρ tg d = some ρ1)
    (k : ∀ σ1, (∀ G2 H2, Same G G2 → Slots S ρ σ G2 H2 → Slots S ρ1 σ1 G2 H2) → (∀ own, tgIn own tg = true → wipe σ1 own = wipe σ own) → Q σ1 H) : gTg S.K tg v σ H Q := by
  cases tg with
  | nm i =>
    unfold bindTg at hb
    cases hb
    exact k _ (fun G2 H2 s h => h.setV (r.mono s)) fun own ho => wipe_set (by simpa [tgIn] using ho)
  | tup is =>
    unfold bindTg at hb
    split at hb
    · rename_i e; cases e
    · rename_i ds e
      cases e
      split at hb
      · rename_i hl
        cases hb
        unfold Rep at r
        obtain ⟨p, vs, rfl, q, rs⟩ := r
        exact ⟨p, vs, rfl, SqT.mono w q, by rw [rs.length]; exact hl, gNames_of rs hl rfl fun σ1 s1 hw => k σ1 s1 fun own ho => hw own ho⟩
      · cases hb
    · cases hb
/-! ### comprehensions -/
abbrev Sx.nox (S : Sx) : Sx := { S with W := fun _ _ _ _ => False }
theorem blkOk_ok (g : GX X c S k) {sc : Scope} (h : blkOk c sc = true) : BlkOk X.N X.env.scope sc (ownOf c.N sc.names) := by
  refine blkOk_by ?_
  unfold blkOk at h
  unfold blkC at h ⊢
  rw [g.N, g.nm]
  exact h
theorem gx_blk (g : GX X c S k) (hc : c.hot = false) {sc : Scope} (h : blkOk c sc = true) (s : Shared) (H : Hp) (C : Addr) (cl : List (Str × Addr)) (fp : List Addr) : GX (X.blk s H sc (compEnvC sc cl C X.env) fp) (c.blk sc) S.nox k := by
  have b := blkOk_ok g h
  refine ⟨g.N, g.nd, ?_, b.kind, g.calm, g.rm, g.cold, (fun z => absurd (hc.symm.trans z) Bool.false_ne_true), g.hX, g.hK, fun _ _ ⟨_, _, _, _, _, _, _, _, _, _, _, _, _, _, _, _, w⟩ => w.elim, ⟨g.tab.fn, g.tab.fx, g.tab.bi, g.tab.ar, g.tab.con, g.tab.cl⟩, fun x hx => ?_⟩
  · show (relS sc X.env.scope).names = blkN sc c.nm
    unfold relS blkN
    rw [g.fk, g.nm]
    simp
  · have hx : x ∈ (sc.names.filter (·.2 == .cell)).map (·.1) := hx
    obtain ⟨y, hy, rfl⟩ := List.mem_map.mp hx
    obtain ⟨h1, h2⟩ := List.mem_filter.mp hy
    show (sc.names.lookup y.1 == some .cell) = true
    rw [b.uniq y h1]
    have : y.2 = .cell := by simpa using h2
    rw [this]; rfl
def notSet : Expr → Bool
  | .Set _ _ _ => false
  | _ => true
theorem fold_set {e : Expr} (h : notSet e = true) (env : PySem.Env) (x : Value) : foldedSetIterable e env x = pure x := by
  cases e <;> first | rfl | (simp [notSet] at h)
theorem oneOrNone_ok {o : Option Bool} {r : R D} {g g' : Gs} {zs : List D} (h : oneOrNone o r g = .ok zs g') : (o = some true ∧ ∃ d, r = .ok d g' ∧ zs = [d]) ∨ (o = some false ∧ g' = g ∧ zs = []) := by
  cases o with
  | none => cases h
  | some b =>
    cases b with
    | true =>
      cases r with
      | ok d g1 => cases h; exact .inl ⟨rfl, d, rfl, rfl⟩
      | ex e g1 => cases h
      | no => cases h
    | false => cases h; exact .inr ⟨rfl, rfl, rfl⟩
/-- the turns of a comprehension -/
theorem comp_core {tg : Tg} {mi mc me : E} {own : List Nat} (htg : tgIn own tg = true) {σ : St} {H : Hp} {Q : VK} (h : tF S (.comp tg mi mc own me) σ H Q) :
    tLc (tI S mi) (gTg S.K tg) (tT S.nox mc) (tE S.nox me) own σ H Q := by
  obtain ⟨ρ, G, gs, sl, w, q⟩ := h
  unfold ev at q
  refine ⟨ρ, G, gs, sl, w, Res.step q fun xs g1 G1 H1 x1 w1 q1 J hJ Da hD => ?_⟩
  generalize hF : (fun (x : D) (g : Gs) => match bindTg (wipeE ρ own) tg x with
      | some ρ1 => (brw mc ρ1 g (ev S.c mc ρ1 g)).bind fun k g => oneOrNone (truthG g k) (ev S.c me ρ1 g) g
      | none => R.no) = F at q1
  cases hz : compL F xs g1 with
  | no => rw [hz] at q1; exact q1.elim
  | ex e g2 => rw [hz] at q1; exact q1.elim
  | ok zs gz =>
    rw [hz] at q1
    unfold sized at q1
    simp only at q1
    split at q1
    case isFalse => exact q1.elim
    rename_i hsz
    have nD : ¬ S.a.has Da := w1.not hD
    let W : Nat → Hp → Prop := fun i H => i ≤ xs.length ∧ ∃ G g acc accV zr, compL F (xs.drop i) g = .ok zr gz ∧ acc ++ zr = zs ∧ H Da = some (.lst accV) ∧ Reps S.K S.a G acc accV ∧ G Da = none ∧ Ext S.a G1 H1 G H ∧ World S.a g G H
    refine ⟨fun i m H => m = xs.length - i ∧ W i H, ⟨_, rfl, Nat.zero_le _, G1, g1, [], [], zs, hz, rfl, upd_same, Reps.nil, w1.sub.free hD, (Ext.fresh w1 hD).1, (Ext.fresh w1 hD).2⟩, ?_⟩
    rintro i m H ⟨rfl, hi, G, g, acc, accV, zr, e1, e2, e3, rs, gD, x2, w2⟩
    by_cases hlt : i < xs.length
    · refine .inr ⟨hJ.goes i G H hlt x2, W (i + 1), fun H' p' => ⟨xs.length - (i + 1), by omega, rfl, p'⟩, fun x H' y => ?_⟩
      obtain ⟨d, ed, k1⟩ := hJ.yields i H x H' G hlt x2 y
      obtain ⟨G', x3, w3, rd⟩ := k1 G g w2 x2.gg
      have edrop : xs.drop i = d :: xs.drop (i + 1) := by
        have hg : xs[i] = d := by
          rw [List.getElem?_eq_getElem hlt] at ed
          exact Option.some.inj ed
        rw [List.drop_eq_getElem_cons hlt, hg]
      rw [edrop] at e1
      unfold compL at e1
      cases hf : F d g with
      | no => rw [hf] at e1; cases e1
      | ex e g2 => rw [hf] at e1; cases e1
      | ok o g' =>
        rw [hf] at e1
        simp only at e1
        cases hr : compL F (xs.drop (i + 1)) g' with
        | no => rw [hr] at e1; cases e1
        | ex e g2 => rw [hr] at e1; cases e1
        | ok zr' gz' =>
          rw [hr] at e1
          cases e1
          have sl3 : Slots S ρ σ G' H' := sl.ext ((x1.trans x2).trans x3)
          have sl4 := sl3.wipe own
          rw [← hF] at hf
          simp only at hf
          cases hb : bindTg (wipeE ρ own) tg d with
          | none => rw [hb] at hf; cases hf
          | some ρ1 =>
            rw [hb] at hf
            simp only at hf
            refine gTg_of w3.sub rd hb fun σ2 tr hw => ⟨by rw [hw own htg]; exact wipe_wipe, ?_⟩
            have sl5 := tr G' H' (Same.refl G') sl4
            cases hc : brw mc ρ1 g (ev S.c mc ρ1 g) with
            | no => rw [hc] at hf; cases hf
            | ex e g2 => rw [hc] at hf; cases hf
            | ok kk g2 =>
              rw [hc, R.bind_ok] at hf
              refine ⟨ρ1, G', g, sl5.wish, w3, ?_⟩
              show Res S.nox σ2 G' H' (brw mc ρ1 g (ev S.c mc ρ1 g)) _
              rw [hc]
              intro G4 H4 x4 w4
              have keepD : ∀ {G5 H5 : Hp}, Ext S.a G H G5 H5 → H5 Da = some (.lst accV) ∧ G5 Da = none := fun {G5 H5} x5 => by
                refine ⟨x5.kp _ _ e3 nD, ?_⟩
                cases z : G5 Da with
                | none => rfl
                | some o5 =>
                  rcases x5.new _ _ z with z2 | z2
                  · rw [gD] at z2; cases z2
                  · rw [e3] at z2; cases z2
              rcases oneOrNone_ok hf with ⟨et, dy, ey, ez⟩ | ⟨et, eg, ez⟩
              · subst ez
                refine ⟨true, et, iteT ?_⟩
                refine ⟨ρ1, G4, g2, (sl5.ext x4).wish, w4, ?_⟩
                show Res S.nox σ2 G4 H4 (ev S.c me ρ1 g2) _
                rw [ey]
                intro G5 H5 x5 w5 v rv
                have xx : Ext S.a G H G5 H5 := (x3.trans x4).trans x5
                obtain ⟨k5, gD5⟩ := keepD xx
                have rs5 : Reps S.K S.a G5 (acc ++ [dy]) (accV ++ [v]) := (rs.mono xx.gg).append (Reps.cons rv Reps.nil)
                have hlen : accV.length < sizeLine := by
                  have l1 := rs.length
                  have l2 : zs.length = acc.length + ([dy] ++ zr').length := by rw [← e2, List.length_append]
                  rw [List.length_append, List.length_singleton] at l2
                  omega
                refine ⟨accV, k5, hlen, hlt, G5, g', acc ++ [dy], accV ++ [v], zr', hr, by rw [List.append_assoc]; exact e2, upd_same, rs5, gD5, ?_, ?_⟩
                · have x6 : Ext S.a G1 H1 G5 H5 := x2.trans xx
                  exact ⟨x6.gg, x6.new, fun b ob e nb => by rw [upd_ne (ne_of_none e hD)]; exact x6.kp b ob e nb, fun b e => x6.dm b (upd_none e)⟩
                · have up : ∀ b, S.a.has b → b ≠ Da := fun b hb2 z => nD (z ▸ hb2)
                  exact w5.move (fun b q => upd_ne (up b q)) (fun b ob e => by rw [upd_ne (ne_of_none e gD5)]; exact w5.sub b ob e) w5.off
              · subst ez eg
                refine ⟨false, et, iteF ?_⟩
                have xx : Ext S.a G H G4 H4 := x3.trans x4
                obtain ⟨k5, gD5⟩ := keepD xx
                exact ⟨hlt, G4, g', acc, accV, zr', hr, e2, k5, rs.mono xx.gg, gD5, x2.trans xx, w4⟩
    · have ei : i = xs.length := by omega
      subst ei
      rw [List.drop_length] at e1
      unfold compL at e1
      cases e1
      rw [List.append_nil] at e2
      subst e2
      refine .inl ⟨hJ.stops G H x2, q1 G H x2 w2 _ ?_⟩
      exact ⟨Da, accV, rfl, e3, nD, gD, x1.dm _ hD, rs⟩
end
end Mi


set_option Elab.async false
set_option maxRecDepth 100000
set_option maxHeartbeats 2000000
/-! Mi10: comprehensions of two clauses. -/
namespace Mi
open PySem L2
/-- the list that a comprehension fills -/
structure AccAt (S : Sx) (G1 H1 : Hp) (Da : Addr) (acc : List D) (G H : Hp) (g : Gs) : Prop where
  at_ : ∃ accV, H Da = some (.lst accV) ∧ Reps S.K S.a G acc accV
  off : G Da = none
  ext : Ext S.a G1 H1 G H
  wd : World S.a g G H
section
variable {S : Sx} {G1 H1 G H G' H' : Hp} {Da : Addr} {acc : List D} {g g' : Gs}
theorem AccAt.new (w : World S.a g G1 H1) (h : H1 Da = none) : AccAt S G1 H1 Da [] G1 (upd H1 Da (.lst [])) g :=
  ⟨⟨[], upd_same, Reps.nil⟩, w.sub.free h, (Ext.fresh w h).1, (Ext.fresh w h).2⟩
theorem AccAt.on (a : AccAt S G1 H1 Da acc G H g) (n : ¬ S.a.has Da) (x : Ext S.a G H G' H') (w : World S.a g' G' H') : AccAt S G1 H1 Da acc G' H' g' := by
  obtain ⟨accV, e, r⟩ := a.at_
  refine ⟨⟨accV, x.kp _ _ e n, r.mono x.gg⟩, ?_, a.ext.trans x, w⟩
  cases z : G' Da with
  | none => rfl
  | some o =>
    rcases x.new _ _ z with z2 | z2
    · rw [a.off] at z2; cases z2
    · rw [e] at z2; cases z2
theorem AccAt.push (a : AccAt S G1 H1 Da acc G H g) (n : ¬ S.a.has Da) (h : H1 Da = none) {d : D} {v : V} (r : Rep S.K S.a G d v) (hl : acc.length < sizeLine) :
    ∃ accV, H Da = some (.lst accV) ∧ accV.length < sizeLine ∧ AccAt S G1 H1 Da (acc ++ [d]) G (upd H Da (.lst (accV ++ [v]))) g := by
  obtain ⟨accV, e, rs⟩ := a.at_
  have up : ∀ b, S.a.has b → b ≠ Da := fun b hb z => n (z ▸ hb)
  refine ⟨accV, e, by rw [rs.length]; exact hl, ⟨_, upd_same, rs.append (Reps.cons r Reps.nil)⟩, a.off, ?_, ?_⟩
  · exact ⟨a.ext.gg, a.ext.new, fun b ob e2 nb => by rw [upd_ne (ne_of_none e2 h)]; exact a.ext.kp b ob e2 nb, fun b e2 => a.ext.dm b (upd_none e2)⟩
  · exact a.wd.move (fun b q => upd_ne (up b q)) (fun b ob e2 => by rw [upd_ne (ne_of_none e2 a.off)]; exact a.wd.sub b ob e2) a.wd.off
end
/-- one turn of compL -/
theorem compL_cons {α : Type} {f : D → Gs → R (List α)} {x : D} {xs : List D} {g gz : Gs} {zs : List α} (h : compL f (x :: xs) g = .ok zs gz) : ∃ o g1 r, f x g = .ok o g1 ∧ compL f xs g1 = .ok r gz ∧ zs = o ++ r := by
  unfold compL at h
  cases hf : f x g with
  | no => rw [hf] at h; cases h
  | ex e g2 => rw [hf] at h; cases h
  | ok o g1 =>
    rw [hf] at h
    simp only at h
    cases hr : compL f xs g1 with
    | no => rw [hr] at h; cases h
    | ex e g2 => rw [hr] at h; cases h
    | ok r g2 => rw [hr] at h; cases h; exact ⟨o, g1, r, rfl, hr, rfl⟩
theorem drop_at {α : Type} {xs : List α} {i : Nat} {d : α} (h : xs[i]? = some d) : xs.drop i = d :: xs.drop (i + 1) := by
  obtain ⟨hl, e⟩ := List.getElem?_eq_some_iff.mp h
  rw [List.drop_eq_getElem_cons hl, e]
section
variable {X : Cx} {c : TC} {S : Sx} {k : Nat}
theorem yesT {σ : St} {H : Hp} {A B : Hp → Prop} (h : A H) : tYes σ H fun b H3 => if b = true then A H3 else B H3 := by
  show (if true = true then A H else B H)
  rw [if_pos rfl]
  exact h
theorem tgIx_in (tg : Tg) : tgIn (tgIx tg) tg = true := by
  cases tg with
  | nm i => simp [tgIn, tgIx]
  | tup is => simp [tgIn, tgIx]
theorem comp2_core {tg tg2 : Tg} {mi mi2 me : E} {own : List Nat} (htg : tgIn own tg = true) {σ : St} {H : Hp} {Q : VK} (h : tF S (.comp2 tg mi tg2 mi2 own (tgIx tg2) me) σ H Q) :
    tLc2 (tI S mi) (gTg S.K tg) tYes (tJ S.nox mi2) (gTg S.K tg2) tYes (tE S.nox me) own (tgIx tg2) σ H Q := by
  obtain ⟨ρ, G, gs, sl, w, q⟩ := h
  unfold ev at q
  refine ⟨ρ, G, gs, sl, w, Res.step q fun xs g1 G1 H1 x1 w1 q1 J hJ Da hD => ?_⟩
  generalize hF : (fun (x : D) (g : Gs) => match bindTg (wipeE ρ own) tg x with
      | some ρ1 => (evJ S.c mi2 ρ1 g).bind fun ys g => compL (fun y g => match bindTg (wipeE ρ1 (tgIx tg2)) tg2 y with
        | some ρ2 => (ev S.c me ρ2 g).bind fun d g => .ok [d] g
        | none => .no) ys g
      | none => R.no) = F at q1
  cases hz : compL F xs g1 with
  | no => rw [hz] at q1; exact q1.elim
  | ex e g2 => rw [hz] at q1; exact q1.elim
  | ok zs gz =>
    rw [hz] at q1
    unfold sized at q1
    simp only at q1
    split at q1
    case isFalse => exact q1.elim
    rename_i hsz
    have nD : ¬ S.a.has Da := w1.not hD
    let W : Nat → Hp → Prop := fun i H => i ≤ xs.length ∧ ∃ G g acc zr, compL F (xs.drop i) g = .ok zr gz ∧ acc ++ zr = zs ∧ AccAt S G1 H1 Da acc G H g
    refine ⟨fun i m H => m = xs.length - i ∧ W i H, ⟨_, rfl, Nat.zero_le _, G1, g1, [], zs, hz, rfl, AccAt.new w1 hD⟩, ?_⟩
    rintro i m H ⟨rfl, hi, G, g, acc, zr, e1, e2, A⟩
    by_cases hlt : i < xs.length
    · refine .inr ⟨hJ.goes i G H hlt A.ext, W (i + 1), fun H' p' => ⟨xs.length - (i + 1), by omega, rfl, p'⟩, fun x H' y => ?_⟩
      obtain ⟨d, ed, k1⟩ := hJ.yields i H x H' G hlt A.ext y
      obtain ⟨G', x3, w3, rd⟩ := k1 G g A.wd A.ext.gg
      rw [drop_at ed] at e1
      obtain ⟨o, g', zr', hf, hr, ez⟩ := compL_cons e1
      subst ez
      have sl3 : Slots S ρ σ G' H' := sl.ext ((x1.trans A.ext).trans x3)
      have sl4 := sl3.wipe own
      rw [← hF] at hf
      simp only at hf
      cases hb : bindTg (wipeE ρ own) tg d with
      | none => rw [hb] at hf; cases hf
      | some ρ1 =>
        rw [hb] at hf
        simp only at hf
        refine gTg_of w3.sub rd hb fun σ2 tr hw => ⟨by rw [hw own htg]; exact wipe_wipe, ?_⟩
        refine yesT ?_
        have sl5 := tr G' H' (Same.refl G') sl4
        cases hc : evJ S.c mi2 ρ1 g with
        | no => rw [hc] at hf; cases hf
        | ex e g2 => rw [hc] at hf; cases hf
        | ok ys g2 =>
          rw [hc, R.bind_ok] at hf
          refine ⟨ρ1, G', g, sl5.wish, w3, ?_⟩
          show Res S.nox σ2 G' H' (evJ S.c mi2 ρ1 g) _
          rw [hc]
          intro G4 H4 x4 w4 J1 hJ1
          have A4 : AccAt S G1 H1 Da acc G4 H4 g2 := (A.on nD x3 w3).on nD x4 w4
          generalize hF2 : (fun (y : D) (g : Gs) => match bindTg (wipeE ρ1 (tgIx tg2)) tg2 y with
              | some ρ2 => (ev S.c me ρ2 g).bind fun d g => R.ok [d] g
              | none => R.no) = F2 at hf
          let W1 : Nat → Hp → Prop := fun j H => j ≤ ys.length ∧ ∃ G g acc2 o2, compL F2 (ys.drop j) g = .ok o2 g' ∧ acc2 ++ o2 = o ∧ AccAt S G1 H1 Da (acc ++ acc2) G H g ∧ Same G4 G
          refine ⟨fun j m H => m = ys.length - j ∧ W1 j H, ⟨_, rfl, Nat.zero_le _, G4, g2, [], o, hf, rfl, by rw [List.append_nil]; exact A4, Same.refl G4⟩, ?_⟩
          rintro j m H5 ⟨rfl, hj, G5, g5, acc2, o2, f1, f2, A5, s5⟩
          have c5 : Same G4 G5 ∧ Same G5 H5 := ⟨s5, A5.wd.sub⟩
          by_cases hlj : j < ys.length
          · refine .inr ⟨hJ1.goes j G5 H5 hlj c5, W1 (j + 1), fun H' p' => ⟨ys.length - (j + 1), by omega, rfl, p'⟩, fun x2 H6 y2 => ?_⟩
            obtain ⟨d2, ed2, k2⟩ := hJ1.yields j H5 x2 H6 G5 hlj c5 y2
            obtain ⟨G6, x6, w6, rd2⟩ := k2 G5 g5 A5.wd s5
            rw [drop_at ed2] at f1
            obtain ⟨o3, g6, o2', hf3, hr3, ez3⟩ := compL_cons f1
            subst ez3
            rw [← hF2] at hf3
            simp only at hf3
            have A6 := A5.on nD x6 w6
            have sl6 : Slots S ρ1 σ2 G6 H6 := tr G6 H6 ((x4.gg.trans s5).trans x6.gg) ((sl.ext (x1.trans A6.ext)).wipe own)
            cases hb2 : bindTg (wipeE ρ1 (tgIx tg2)) tg2 d2 with
            | none => rw [hb2] at hf3; cases hf3
            | some ρ2 =>
              rw [hb2] at hf3
              simp only at hf3
              refine gTg_of w6.sub rd2 hb2 fun σ3 tr2 hw2 => ⟨by rw [hw2 (tgIx tg2) (tgIx_in tg2)]; exact wipe_wipe, ?_⟩
              refine yesT ?_
              have sl7 := tr2 G6 H6 (Same.refl G6) (sl6.wipe (tgIx tg2))
              refine ⟨ρ2, G6, g5, sl7.wish, w6, ?_⟩
              show Res S.nox σ3 G6 H6 (ev S.c me ρ2 g5) _
              cases he : ev S.c me ρ2 g5 with
              | no => rw [he] at hf3; cases hf3
              | ex e g2 => rw [he] at hf3; cases hf3
              | ok dy gy =>
                rw [he] at hf3
                cases hf3
                intro G7 H7 x7 w7 v rv
                have hlen : (acc ++ acc2).length < sizeLine := by
                  have l2 := congrArg List.length e2
                  have l3 := congrArg List.length f2
                  simp only [List.length_append, List.length_cons, List.length_nil] at l2 l3 ⊢
                  omega
                obtain ⟨accV, k5, k6, A7⟩ := (A6.on nD x7 w7).push nD hD rv hlen
                refine ⟨accV, k5, k6, hlj, G7, g6, acc2 ++ [dy], o2', hr3, by rw [List.append_assoc]; exact f2, by rw [← List.append_assoc]; exact A7, (s5.trans x6.gg).trans x7.gg⟩
          · have ej : j = ys.length := by omega
            subst ej
            rw [List.drop_length] at f1
            unfold compL at f1
            cases f1
            rw [List.append_nil] at f2
            subst f2
            exact .inl ⟨hJ1.stops G5 H5 c5, hlt, G5, g', acc ++ acc2, zr', hr, by rw [List.append_assoc]; exact e2, A5⟩
    · have ei : i = xs.length := by omega
      subst ei
      rw [List.drop_length] at e1
      unfold compL at e1
      cases e1
      rw [List.append_nil] at e2
      subst e2
      obtain ⟨accV, e3, rs⟩ := A.at_
      refine .inl ⟨hJ.stops G H A.ext, q1 G H A.ext A.wd _ ?_⟩
      exact ⟨Da, accV, rfl, e3, nD, A.off, x1.dm _ hD, rs⟩
end
end Mi


set_option Elab.async false
set_option maxRecDepth 100000
set_option maxHeartbeats 4000000
/-! Mi11: what is translated is sound: expressions. -/
namespace Mi
open PySem L2
section
/-- the claims of one depth -/
structure SndE (n : Nat) : Prop where
  e : ∀ {X : Cx} {c : TC} {S : Sx} {k : Nat} {t : Bool} {e : Expr} {m : E}, GX X c S k → trE c t n e = some m →
    notStar e = true ∧ notSet e = true ∧ (t = false → PE X e (tE S m) ∧ PE X e (tB S m) ∧ (isFr m = true → PE X e (tF S m))) ∧ (t = true → PT X e (tT S m))
  l : ∀ {X : Cx} {c : TC} {S : Sx} {k : Nat} {es : List Expr} {ms : List E}, GX X c S k → trL c n es = some ms → es.all notStar = true ∧ PA X es (tL S ms) ∧ PA X es (tLB S ms)
  bo : ∀ {X : Cx} {c : TC} {S : Sx} {k : Nat} {t : Bool} {o : BoolOp} {es : List Expr} {m : E} {pos : Pos}, GX X c S k → trBo c t n o es = some m →
    (t = false → PE X (.BoolOp o es pos) (tE S m) ∧ PE X (.BoolOp o es pos) (tB S m) ∧ (isFr m = true → PE X (.BoolOp o es pos) (tF S m))) ∧ (t = true → PW X (.BoolOp o es pos) (tT S m)) ∧ es ≠ []
  o : ∀ {X : Cx} {c : TC} {S : Sx} {k : Nat} {e : Option Expr} {m : E}, GX X c S k → trO c n e = some m → PO X e (tO S m)
  q : ∀ {X : Cx} {c : TC} {S : Sx} {k : Nat} {es : List Expr} {m : E}, GX X c S k → trIf c n es = some m → PTs X es (tT S m)
  i : ∀ {X : Cx} {c : TC} {S : Sx} {k : Nat} {tg e : Expr} {m : E}, GX X c S k → trI c n e = some m → notSet e = true ∧ PI X tg e (tI S m) ∧ PI X tg e (tJ S m)
theorem brw_nn {m : E} (h : ∀ i, m ≠ .nm i) {X : Cx} {e : Expr} {S : Sx} (p : PE X e (tE S m)) : PE X e (tE S m) ∧ PE X e (tB S m) ∧ (isFr m = true → PE X e (tF S m)) → PE X e (tB S m) := fun q => q.2.1
theorem ofE {X : Cx} {e : Expr} {S : Sx} {m : E} (h : ∀ i, m ≠ .nm i) (f : isFr m = false) (p : PE X e (tE S m)) : PE X e (tE S m) ∧ PE X e (tB S m) ∧ (isFr m = true → PE X e (tF S m)) :=
  ⟨p, pe_toB h p, fun z => by rw [f] at z; cases z⟩
theorem ofF {X : Cx} {e : Expr} {S : Sx} {m : E} (h : ∀ i, m ≠ .nm i) (p : PE X e (tF S m)) : PE X e (tE S m) ∧ PE X e (tB S m) ∧ (isFr m = true → PE X e (tF S m)) :=
  ⟨pe_ofF p, pe_toB h (pe_ofF p), fun _ => p⟩
theorem isNeg1_eq {e : Expr} (h : isNeg1 e = true) : ∃ k p1 p2, e = .UnaryOp .USub (.Constant (.int 1) k p1) p2 := by
  unfold isNeg1 at h
  split at h
  · exact ⟨_, _, _, rfl⟩
  · cases h
theorem snd_const {X : Cx} {S : Sx} {k : Const} {d : D} (h : trK k = some d) (j : Nat) (pos : Pos) : PE X (.Constant k j pos) (tE S (.lit d)) := by
  cases k <;> simp only [trK, Option.some.injEq, reduceCtorEq] at h <;> subst h
  · exact snd_lit pe_non fun G => by unfold Rep; rfl
  · exact snd_lit pe_bl fun G => by unfold Rep; rfl
  · exact snd_lit pe_int fun G => by unfold Rep; rfl
  · exact snd_lit pe_str fun G => by unfold Rep; rfl
theorem plainIx_of {b : Expr} (h : ∀ lo hi st p, b ≠ .Slice lo hi st p) : PlainIx b := by
  intro o i
  cases b <;> first | rfl | exact absurd rfl (h _ _ _ _)
theorem slice_none {c : TC} {t : Bool} {n : Nat} {lo hi st p} : trE c t n (.Slice lo hi st p) = none := by
  cases n with
  | zero => unfold trE; rfl
  | succ n => unfold trE; rfl
theorem pts_tT {X : Cx} {S : Sx} : PTs X [] (tT S (.lit (.bl true))) := ⟨fun pins s σ H Q I ⟨ρ, G, gs, sl, w, q⟩ => by
  rw [brw_of (fun i => by simp)] at q
  unfold ev at q
  obtain ⟨b, e, q1⟩ := Res.here w q
  cases e
  exact pts_nil.run pins s σ H Q I q1⟩
theorem pw_one {X : Cx} {S : Sx} {o : BoolOp} {e : Expr} {m : E} {pos : Pos} (h : PT X e (tT S m)) : PW X (.BoolOp o [e] pos) (tT S m) := by
  cases o with
  | And => exact pw_and1 h
  | Or => exact pw_or1 h
theorem finP {X : Cx} {c : TC} {S : Sx} {k : Nat} {t : Bool} {e : Expr} {m : E} (g : GX X c S k) (h1 : notStar e = true) (h2 : notSet e = true) (q : PE X e (tE S m) ∧ PE X e (tB S m) ∧ (isFr m = true → PE X e (tF S m)))
    (he : ∀ whole, PySem.isTrue e X.env whole = (do let v ← whole; standAt e.pos; holding [v] (truthy v))) :
    notStar e = true ∧ notSet e = true ∧ (t = false → PE X e (tE S m) ∧ PE X e (tB S m) ∧ (isFr m = true → PE X e (tF S m))) ∧ (t = true → PT X e (tT S m)) :=
  ⟨h1, h2, fun _ => q, fun _ => snd_truth g q.2.1 he⟩
theorem trTys_one {c : TC} {x : Str} {p : Pos} {ts : List Ty} (h : trTys c [.Name x p] = some ts) : ∃ t, c.isG x = true ∧ trTy x = some t ∧ ts = [t] := by
  unfold trTys at h
  split at h
  · rename_i hg
    split at h
    · rename_i t ts' h1 h2
      unfold trTys at h2
      cases h2
      cases h
      exact ⟨t, hg, h1, rfl⟩
    · cases h
  · cases h
theorem biOf_pos {f : Str} {n : Nat} {b : BI} (h : biOf f n = some b) : n ≠ 0 := by
  unfold biOf at h
  repeat' split at h
  all_goals first | (cases h; done) | omega
theorem biOf_hot {c : TC} {f : Str} {n : Nat} {b : BI} (h : c.biOf f n = some b) : Mi.biOf f n = some b ∧ (c.hot = true → biHot b = true) := by
  unfold TC.biOf at h
  split at h
  · rename_i b' e
    split at h
    · cases h
    · rename_i hn
      cases h
      refine ⟨e, fun z => ?_⟩
      cases q : biHot b with
      | true => rfl
      | false => exact absurd ⟨z, q⟩ hn
  · cases h
theorem tgIx_sub {own : List Nat} {tg : Tg} (h : tgIn own tg = true) : ∀ i ∈ tgIx tg, i ∈ own := fun i hi => by
  cases tg with
  | nm j =>
    simp only [tgIx, List.mem_singleton] at hi
    subst hi
    simpa [tgIn] using h
  | tup is =>
    simp only [tgIx] at hi
    simp only [tgIn, List.all_eq_true] at h
    simpa using h i hi
theorem snd_tgB {X : Cx} {c : TC} {S : Sx} {k : Nat} (g : GX X c S k) (hc : c.hot = false) {sc : Scope} (hb : blkOk c sc = true) {e : Expr} {tg : Tg} (h : trTg (c.blk sc) e = some tg) (s : Shared) (H : Hp) (C : Addr) (cl : List (Str × Addr)) (fp : List Addr) :
    PG (X.blk s H sc (compEnvC sc cl C X.env) fp) e (gTg X.K tg) := snd_tg (gx_blk g hc hb s H C cl fp) h
end
end Mi
namespace Mi
open PySem L2
theorem snd_zero : SndE 0 := by
  refine ⟨fun _ h => ?_, fun _ h => ?_, fun _ h => ?_, fun _ h => ?_, fun _ h => ?_, fun _ h => ?_⟩
  · unfold trE at h; cases h
  · unfold trL at h; cases h
  · unfold trBo at h; cases h
  · unfold trO at h; cases h
  · unfold trIf at h; cases h
  · unfold trI at h; cases h
theorem snd_succ {n : Nat} (ih : SndE n) : SndE (n + 1) := by
  refine ⟨fun {X c S k t e m} g h => ?_, fun {X c S k es ms} g h => ?_, fun {X c S k t o es m pos} g h => ?_, fun {X c S k e m} g h => ?_, fun {X c S k es m} g h => ?_, fun {X c S k tg e m} g h => ?_⟩
  · unfold trE at h
    simp only at h
    have E1 : ∀ {a : Expr} {ma : E}, trE c false n a = some ma → notStar a = true ∧ PE X a (tE S ma) ∧ PE X a (tB S ma) := fun ha => ⟨(ih.e g ha).1, ((ih.e g ha).2.2.1 rfl).1, ((ih.e g ha).2.2.1 rfl).2.1⟩
    have T1 : ∀ {a : Expr} {ma : E}, trE c true n a = some ma → PT X a (tT S ma) := fun ha => (ih.e g ha).2.2.2 rfl
    split at h
    · -- a name
      split at h
      · rename_i x p i hi
        cases h
        refine ⟨rfl, rfl, fun _ => ⟨snd_nm g hi, snd_nmB g hi, fun z => by simp [isFr] at z⟩, fun _ => snd_truth g (snd_nmB g hi) fun _ => rfl⟩
      · split at h
        · rename_i x p _ _ hg
          obtain ⟨kk, hk, rfl⟩ := Option.map_eq_some_iff.mp h
          obtain ⟨tk, ht⟩ := g.tab.con x kk hk
          have pe : PE X (.Name x p) (tE S (.lit (.int kk))) := snd_lit (pe_glob (v := .int kk) (g.gl hg.1) ht ⟨tk, rfl⟩ hg.2) fun G => by unfold Rep; rfl
          exact finP g rfl rfl (ofE (fun i => by simp) rfl pe) fun _ => rfl
        · cases h
    · -- a constant
      obtain ⟨d, hd, rfl⟩ := Option.map_eq_some_iff.mp h
      exact finP g rfl rfl (ofE (fun i => by simp) rfl (snd_const hd _ _)) fun _ => rfl
    · -- a tuple
      obtain ⟨ms, hms, rfl⟩ := Option.map_eq_some_iff.mp h
      exact finP g rfl rfl (ofE (fun i => by simp) rfl (snd_tup (ih.l g hms).2.1)) fun _ => rfl
    · -- a list
      obtain ⟨ms, hms, rfl⟩ := Option.map_eq_some_iff.mp h
      exact finP g rfl rfl (ofF (fun i => by simp) (snd_lst (ih.l g hms).2.1)) fun _ => rfl
    · -- an operator
      split at h
      · rename_i ho ha hb
        cases h
        exact finP g rfl rfl (ofF (fun i => by simp) (snd_op g ho (E1 ha).2.2 (E1 hb).2.2)) fun _ => rfl
      · cases h
    · -- a sign ahead
      obtain ⟨ma, ha, rfl⟩ := Option.map_eq_some_iff.mp h
      exact finP g rfl rfl (ofE (fun i => by simp) rfl (snd_neg (E1 ha).2.1)) fun _ => rfl
    · -- not
      split at h
      · rename_i ht
        obtain ⟨ma, ha, rfl⟩ := Option.map_eq_some_iff.mp h
        exact ⟨rfl, rfl, fun z => absurd (ht.symm.trans z) (by decide), fun _ => snd_tnot (T1 ha)⟩
      · rename_i ht
        obtain ⟨ma, ha, rfl⟩ := Option.map_eq_some_iff.mp h
        exact ⟨rfl, rfl, fun _ => ofE (fun i => by simp) rfl (snd_not (E1 ha).2.1), fun z => absurd z ht⟩
    · -- and, or
      obtain ⟨b1, b2, b3⟩ := ih.bo g h
      exact ⟨rfl, rfl, b1, fun z => (b2 z).pt⟩
    · -- a if q else b
      split at h
      · rename_i hq ha hb
        split at h
        · cases h
        · rename_i ht
          cases h
          exact ⟨rfl, rfl, fun _ => ofE (fun i => by simp) rfl (snd_ite (T1 hq) (E1 ha).2.1 (E1 hb).2.1), fun z => absurd z ht⟩
      · cases h
    · -- a comparison
      split at h
      · rename_i ha hb
        split at h
        · rename_i hm
          cases h
          exact ⟨rfl, rfl, fun _ => ofE (fun i => by simp) rfl (snd_cmp g hm (E1 ha).2.2 (E1 hb).2.2), fun _ => snd_cmpT g hm (E1 ha).2.2 (E1 hb).2.2⟩
        · cases h
      · cases h
    · -- two comparisons
      split at h
      · rename_i ha hb hd
        split at h
        · rename_i hm
          cases h
          exact ⟨rfl, rfl, fun _ => ofE (fun i => by simp) rfl (snd_chain g hm (E1 ha).2.1 (E1 hb).2.1 (E1 hd).2.1), fun _ => snd_chainT g hm (E1 ha).2.1 (E1 hb).2.1 (E1 hd).2.1⟩
        · cases h
      · cases h
    · -- a slice
      split at h
      · split at h
        · rename_i ha hl hh
          cases h
          exact finP g rfl rfl (ofF (fun i => by simp) (snd_sl g (E1 ha).2.2 (ih.o g hl) (ih.o g hh))) fun _ => rfl
        · cases h
      · split at h
        · rename_i lo hi p pos st hc
          obtain ⟨kk, p1, p2, rfl⟩ := isNeg1_eq hc.1
          obtain ⟨ma, ha, rfl⟩ := Option.map_eq_some_iff.mp h
          have e1 := Option.isNone_iff_eq_none.mp hc.2.1
          have e2 := Option.isNone_iff_eq_none.mp hc.2.2
          subst e1 e2
          exact finP g rfl rfl (ofF (fun i => by simp) (snd_rev g (E1 ha).2.2)) fun _ => rfl
        · cases h
    · -- a subscript
      split at h
      · rename_i ha hb
        cases h
        exact finP g rfl rfl (ofE (fun i => by simp) rfl (snd_ix g (plainIx_of fun lo hi st p e => by subst e; rw [slice_none] at hb; cases hb) (E1 ha).2.2 (E1 hb).2.1)) fun _ => rfl
      · cases h
    · -- a call
      split at h
      · rename_i f pf es pos hg
        split at h
        · rename_i i hi
          split at h
          · cases h
          · rename_i hne
            obtain ⟨ms, hms, rfl⟩ := Option.map_eq_some_iff.mp h
            obtain ⟨l1, l2, _⟩ := ih.l g hms
            have hh : c.hots.contains i = c.hot := by
              by_cases q : c.hots.contains i = c.hot
              · exact q
              · exact absurd (.inr q) hne
            cases es with
            | nil => exact absurd (.inl rfl) hne
            | cons a es =>
              exact finP g rfl rfl (ofE (fun i => by simp) rfl (snd_call (p := pf) (pos := pos) g hg hi hh l1 l2)) fun _ => rfl
        · have bi : ∀ {es : List Expr} {b : BI} {ms : List E} {kk : Nat}, c.biOf f kk = some b → es ≠ [] → trL c n es = some ms → PE X (.Call (.Name f pf) es [] pos) (tF S (.bi b ms)) := fun {es b ms kk} hb hne hms => by
            obtain ⟨l1, _, l3⟩ := ih.l g hms
            cases es with
            | nil => exact absurd rfl hne
            | cons a es => exact snd_bi g hg (biOf_name (biOf_hot hb).1) (biOf_hot hb).2 l1 l3
          split at h
          · rename_i a ty pty
            split at h
            · rename_i hf
              subst hf
              split at h
              · rename_i j hj
                obtain ⟨ma, ha, rfl⟩ := Option.map_eq_some_iff.mp h
                unfold TC.clsH at hj
                split at hj
                · rename_i hc
                  exact finP g rfl rfl (ofE (fun i => by simp) rfl (snd_isx g hc hg hj (E1 ha).1 (E1 ha).2.1)) fun _ => rfl
                · cases hj
              · split at h
                · rename_i ma ts ha ht
                  cases h
                  obtain ⟨t1, h1, h2, rfl⟩ := trTys_one ht
                  exact finP g rfl rfl (ofE (fun i => by simp) rfl (snd_isi1 g hg h1 h2 (E1 ha).1 (E1 ha).2.2)) fun _ => rfl
                · cases h
            · split at h
              · rename_i hb hms
                cases h
                exact finP g rfl rfl (ofF (fun i => by simp) (bi hb (by simp) hms)) fun _ => rfl
              · cases h
          · split at h
            · rename_i hf
              subst hf
              split at h
              · rename_i ha ht
                split at h
                · rename_i hl
                  cases h
                  exact finP g rfl rfl (ofE (fun i => by simp) rfl (snd_isiT (p := pf) (pos := pos) g hg ht (Nat.le_trans hl (by decide)) (E1 ha).1 (E1 ha).2.2)) fun _ => rfl
                · cases h
              · cases h
            · cases h
          · split at h
            · rename_i hb hms
              cases h
              exact finP g rfl rfl (ofF (fun i => by simp) (bi hb (fun z => biOf_pos (biOf_hot hb).1 (by rw [z]; rfl)) hms)) fun _ => rfl
            · cases h
      · cases h
    · -- the first one is taken out
      split at h
      · rename_i a f apos kk kp cpos hc
        obtain ⟨rfl, hl, hr⟩ := hc
        split at h
        · rename_i ha _
          cases h
          exact finP g rfl rfl (ofE (fun i => by simp) rfl (snd_pop hr hl (E1 ha).2.1)) fun _ => rfl
        · cases h
      · cases h
    · -- a field
      split at h
      · rename_i hc
        obtain ⟨ma, ha, rfl⟩ := Option.map_eq_some_iff.mp h
        exact finP g rfl rfl (ofE (fun i => by simp) rfl (snd_fld g hc.1 hc.2 (E1 ha).2.1)) fun _ => rfl
      · cases h
    · -- a comprehension
      split at h
      · rename_i elt tg it ifs sc pos hb
        obtain ⟨hb, hc⟩ := hb
        split at h
        · rename_i hi ht hq he
          split at h
          · rename_i hin
            cases h
            have B := blkOk_ok g hb
            refine finP g rfl rfl (ofF (fun i => by simp) (pe_weak (pe_lc (g.calm hc) (by rw [g.N]; exact g.nd) (ih.i g hi).2.1 B (snd_tgB g hc hb ht) (fun s H C cl fp => ih.q (gx_blk g hc hb s H C cl fp) hq)
              (fun s H C cl fp => ((ih.e (gx_blk g hc hb s H C cl fp) he).2.2.1 rfl).1) (fold_set (ih.i (tg := tg) g hi).1 _)) fun σ H Q h => ?_)) fun _ => rfl
            have q := comp_core hin h
            rw [← g.hK] at q
            exact q
          · cases h
        · cases h
      · cases h
    · -- a comprehension of two clauses
      split at h
      · rename_i elt tg it tg1 it1 sc pos hb
        obtain ⟨hb, hc⟩ := hb
        split at h
        · rename_i hi ht hi1 ht1 he
          split at h
          · rename_i hin
            cases h
            rw [Bool.and_eq_true] at hin
            have B := blkOk_ok g hb
            refine finP g rfl rfl (ofF (fun i => by simp) (pe_weak (pe_lc2 (g.calm hc) (by rw [g.N]; exact g.nd) (ih.i g hi).2.1 B (tgIx_sub hin.2) (snd_tgB g hc hb ht) (fun s H C cl fp => pts_nil)
              (fun s H C cl fp => (ih.i (gx_blk g hc hb s H C cl fp) hi1).2.2) (snd_tgB g hc hb ht1) (fun s H C cl fp => pts_nil) (fun s H C cl fp => ((ih.e (gx_blk g hc hb s H C cl fp) he).2.2.1 rfl).1)
              (fold_set (ih.i (tg := tg) g hi).1 _) (fun env x => fold_set (ih.i (tg := tg1) (gx_blk g hc hb X.s_0 X.H_0 0 [] []) hi1).1 env x)) fun σ H Q h => ?_)) fun _ => rfl
            have q := comp2_core hin.1 h
            rw [← g.hK] at q
            exact q
          · cases h
        · cases h
      · cases h
    · cases h
  · unfold trL at h
    split at h
    · rename_i e1; cases e1
    · cases h
      exact ⟨rfl, snd_nil, snd_nilB⟩
    · split at h
      · rename_i n' e' es' e1 o1 o2 m' ms' he hl
        cases e1
        cases h
        obtain ⟨p1, p2, p3, _⟩ := ih.e g he
        obtain ⟨l1, l2, l3⟩ := ih.l g hl
        exact ⟨by rw [List.all_cons, p1, l1]; rfl, snd_cons p1 (p3 rfl).1 l2, snd_consB p1 (p3 rfl).2.1 l3⟩
      · cases h
  · unfold trBo at h
    split at h
    · rename_i e1; cases e1
    · cases h
    · rename_i e1
      cases e1
      obtain ⟨p1, p2, p3, p4⟩ := ih.e g h
      exact ⟨fun ht => ⟨pe_one (p3 ht).1, pe_one (p3 ht).2.1, fun z => pe_one ((p3 ht).2.2 z)⟩, fun ht => pw_one (p4 ht), by simp⟩
    · split at h
      · rename_i oo n0 o0 es0 n' e' es' hne e1 o1 o2 ma mb he hb
        cases e1
        obtain ⟨p1, p2, p3, p4⟩ := ih.e g he
        obtain ⟨b1, b2, b3⟩ := ih.bo (pos := pos) g hb
        cases es' with
        | nil => exact absurd rfl hne
        | cons e2 es2 =>
          cases oo with
          | And =>
            cases h
            cases t with
            | true => exact ⟨(fun z => Bool.noConfusion z), fun _ => snd_tand (p4 rfl) (b2 rfl), by simp⟩
            | false => exact ⟨fun _ => ofE (fun i => by simp) rfl (snd_and (p3 rfl).1 (b1 rfl).1), (fun z => Bool.noConfusion z), by simp⟩
          | Or =>
            cases h
            cases t with
            | true => exact ⟨(fun z => Bool.noConfusion z), fun _ => snd_tor (p4 rfl) (b2 rfl), by simp⟩
            | false => exact ⟨fun _ => ofE (fun i => by simp) rfl (snd_or (p3 rfl).1 (b1 rfl).1), (fun z => Bool.noConfusion z), by simp⟩
      · cases h
  · unfold trO at h
    split at h
    · rename_i e1; cases e1
    · cases h
      exact snd_po0
    · rename_i n' e' e1
      cases e1
      obtain ⟨m', he, rfl⟩ := Option.map_eq_some_iff.mp h
      exact snd_po1 ((ih.e g he).2.2.1 rfl).1
  · unfold trIf at h
    split at h
    · rename_i e1; cases e1
    · cases h
      exact pts_tT
    · rename_i n' e' e1
      cases e1
      exact pts_one ((ih.e g h).2.2.2 rfl)
    · cases h
  · unfold trI at h
    have E1 : ∀ {a : Expr} {ma : E}, trE c false n a = some ma → notStar a = true ∧ PE X a (tE S ma) ∧ PE X a (tB S ma) ∧ notSet a = true := fun ha => ⟨(ih.e g ha).1, ((ih.e g ha).2.2.1 rfl).1, ((ih.e g ha).2.2.1 rfl).2.1, (ih.e g ha).2.1⟩
    have sq : ∀ {e : Expr} {m : E}, (trE c false n e).map E.iseq = some m → notSet e = true ∧ PI X tg e (tI S m) ∧ PI X tg e (tJ S m) := fun {e m} h => by
      obtain ⟨m', he, rfl⟩ := Option.map_eq_some_iff.mp h
      obtain ⟨_, h2, h3, h4⟩ := E1 he
      exact ⟨h4, snd_iseq g h3, snd_jseq g h2⟩
    split at h
    · split at h
      · rename_i hc
        obtain ⟨h1, h2, _⟩ := hc
        subst h2
        obtain ⟨m', he, rfl⟩ := Option.map_eq_some_iff.mp h
        obtain ⟨s1, s2, _, _⟩ := E1 he
        exact ⟨rfl, snd_irng1 g h1 s1 s2, snd_jrng1 g h1 s1 s2⟩
      · exact sq h
    · split at h
      · rename_i hc
        obtain ⟨h1, h2, _⟩ := hc
        subst h2
        split at h
        · rename_i ha hb
          cases h
          obtain ⟨s1, s2, _, _⟩ := E1 ha
          obtain ⟨r1, r2, _, _⟩ := E1 hb
          exact ⟨rfl, snd_irng2 g h1 s1 r1 s2 r2, snd_jrng2 g h1 s1 r1 s2 r2⟩
        · cases h
      · exact sq h
    · exact sq h
theorem snd_all : ∀ n, SndE n
  | 0 => snd_zero
  | n + 1 => snd_succ (snd_all n)
end Mi


set_option Elab.async false
set_option maxRecDepth 100000
set_option maxHeartbeats 4000000
/-! Mi12: statements. -/
namespace Mi
open PySem L2
/-- a statement's answer; Gb: what was known ahead of it -/
def SRes (S : Sx) (Gb : Hp) (r : SR) (Dn : Ends) : Prop := match r with
  | .nx ρ g => ∀ σ G H, Slots S ρ σ G H → World S.a g G H → Ext S.a S.G0 S.H0 G H → Same Gb G → Dn.nx σ H
  | .rt d g => ∀ v G H, World S.a g G H → Ext S.a S.G0 S.H0 G H → Rep S.K S.a G d v → Dn.rt v H
  | .bk ρ g => ∀ σ G H, Slots S ρ σ G H → World S.a g G H → Ext S.a S.G0 S.H0 G H → Same Gb G → Dn.bk σ H
  | .ct ρ g => ∀ σ G H, Slots S ρ σ G H → World S.a g G H → Ext S.a S.G0 S.H0 G H → Same Gb G → Dn.ct σ H
  | .ex e ρ g => ∀ σ G H cls d, Slots S ρ σ G H → World S.a g G H → Ext S.a S.G0 S.H0 G H → Same Gb G → ExAt S G e cls d → S.W cls d σ H
  | .no => False
def tS (S : Sx) (m : Mi.S) : TS := fun Dn σ H => ∃ ρ G g, Slots S ρ σ G H ∧ World S.a g G H ∧ Ext S.a S.G0 S.H0 G H ∧ SRes S G (exS S.c m ρ g) Dn
def tSs (S : Sx) (ms : List Mi.S) : TS := fun Dn σ H => ∃ ρ G g, Slots S ρ σ G H ∧ World S.a g G H ∧ Ext S.a S.G0 S.H0 G H ∧ SRes S G (exL S.c ms ρ g) Dn
section
variable {S : Sx} {σ : St} {G H : Hp} {ρ : Env} {g : Gs} {α : Type}
theorem SRes.shift {Gb : Hp} {r : SR} {Dn : Ends} (s : Same Gb G) (h : SRes S Gb r Dn) : SRes S G r Dn := by
  cases r with
  | nx ρ g => exact fun σ G' H sl w x s' => h σ G' H sl w x (s.trans s')
  | rt d g => exact h
  | bk ρ g => exact fun σ G' H sl w x s' => h σ G' H sl w x (s.trans s')
  | ct ρ g => exact fun σ G' H sl w x s' => h σ G' H sl w x (s.trans s')
  | ex e ρ g => exact fun σ G' H cls d sl w x s' q => h σ G' H cls d sl w x (s.trans s') q
  | no => exact h
/-- an expression ahead -/
theorem SRes.step {r : R α} {f : α → Gs → SR} {Dn : Ends} {P : α → Gs → Hp → Hp → Prop} (sl : Slots S ρ σ G H) (x0 : Ext S.a S.G0 S.H0 G H) (h : SRes S G (r.st ρ f) Dn)
    (k : ∀ a g' G' H', Ext S.a G H G' H' → World S.a g' G' H' → Slots S ρ σ G' H' → Ext S.a S.G0 S.H0 G' H' → SRes S G' (f a g') Dn → P a g' G' H') : Res S σ G H r P := by
  cases r with
  | ok a g' => exact fun G' H' x w => k a g' G' H' x w (sl.ext x) (x0.trans x) (SRes.shift x.gg h)
  | ex e g' => exact fun G' H' cls d x w q => h σ G' H' cls d (sl.ext x) w (x0.trans x) x.gg q
  | no => exact h
/-- where what follows is known to go on -/
abbrev Goes (S : Sx) (Gb : Hp) (P : Env → Gs → Hp → Prop) : St → Hp → Prop := fun σ H => ∃ ρ G g, Slots S ρ σ G H ∧ World S.a g G H ∧ Ext S.a S.G0 S.H0 G H ∧ Same Gb G ∧ P ρ g G
theorem SRes.seq {Gb : Hp} {r : SR} {f : Env → Gs → SR} {Dn : Ends} (h : SRes S Gb (r.seq f) Dn) : SRes S Gb r { Dn with nx := Goes S Gb fun ρ g G => SRes S G (f ρ g) Dn } := by
  cases r with
  | nx ρ g => exact fun σ G H sl w x s => ⟨ρ, G, g, sl, w, x, s, SRes.shift s h⟩
  | rt d g => exact h
  | bk ρ g => exact h
  | ct ρ g => exact h
  | ex e ρ g => exact h
  | no => exact h
theorem SRes.turn {Gb : Hp} {r : SR} {f : Env → Gs → SR} {Dn : Ends} (h : SRes S Gb (r.turn f) Dn) :
    SRes S Gb r { nx := Goes S Gb fun ρ g G => SRes S G (f ρ g) Dn, rt := Dn.rt, bk := Dn.nx, ct := Goes S Gb fun ρ g G => SRes S G (f ρ g) Dn } := by
  cases r with
  | nx ρ g => exact fun σ G H sl w x s => ⟨ρ, G, g, sl, w, x, s, SRes.shift s h⟩
  | rt d g => exact h
  | bk ρ g => exact h
  | ct ρ g => exact fun σ G H sl w x s => ⟨ρ, G, g, sl, w, x, s, SRes.shift s h⟩
  | ex e ρ g => exact h
  | no => exact h
theorem SRes.mono {Gb : Hp} {r : SR} {D1 D2 : Ends} (h : SRes S Gb r D1) (k1 : ∀ σ H, D1.nx σ H → D2.nx σ H) (k2 : ∀ v H, D1.rt v H → D2.rt v H) (k3 : ∀ σ H, D1.bk σ H → D2.bk σ H) (k4 : ∀ σ H, D1.ct σ H → D2.ct σ H) : SRes S Gb r D2 := by
  cases r with
  | nx ρ g => exact fun σ G H sl w x s => k1 _ _ (h σ G H sl w x s)
  | rt d g => exact fun v G H w x r => k2 _ _ (h v G H w x r)
  | bk ρ g => exact fun σ G H sl w x s => k3 _ _ (h σ G H sl w x s)
  | ct ρ g => exact fun σ G H sl w x s => k4 _ _ (h σ G H sl w x s)
  | ex e ρ g => exact h
  | no => exact h
/-! ### lists held alone -/
/-- known for good from now on -/
theorem Slots.know {i : Nat} {ds : List D} (sl : Slots S ρ σ G H) (w : World S.a g G H) (x : Ext S.a S.G0 S.H0 G H) (e : ρ.get i = some (.own ds)) :
    ∃ G', Slots S (ρ.set i (some (.val (.lst ds)))) σ G' H ∧ World S.a g G' H ∧ Ext S.a S.G0 S.H0 G' H ∧ Same G G' := by
  obtain ⟨p, vs, e1, e2, n, gp, h0, rs⟩ := sl.own i ds e
  obtain ⟨w2, s2⟩ := Ext.know w e2 gp n
  have hi : i < ρ.length := by
    unfold Env.get at e
    split at e
    · rename_i q; exact (List.getElem?_eq_some_iff.mp q).1
    · cases e
  refine ⟨upd G p (.lst vs), ⟨by rw [List.length_set]; exact sl.len, fun j d q => ?_, fun j es q => ?_, fun j l es fs ne q1 q2 => ?_⟩, w2, ⟨x.gg.trans s2, fun b o q => ?_, x.kp, x.dm⟩, s2⟩
  · rcases Env.get_set q with ⟨rfl, q1, _⟩ | ⟨nj, q1⟩
    · cases q1
      refine ⟨_, e1, ?_⟩
      unfold Rep
      exact ⟨p, vs, rfl, upd_same, rs.mono s2⟩
    · obtain ⟨v, q2, r⟩ := sl.val j d q1
      exact ⟨v, q2, r.mono s2⟩
  · rcases Env.get_set q with ⟨rfl, q1, _⟩ | ⟨nj, q1⟩
    · cases q1
    · obtain ⟨p', vs', f1, f2, f3, f4, f5, f6⟩ := sl.own j es q1
      have np : p' ≠ p := fun z => by
        subst z
        exact sl.sep j i es ds nj q1 e (f1.trans e1.symm)
      exact ⟨p', vs', f1, f2, f3, by rw [upd_ne np]; exact f4, f5, f6.mono s2⟩
  · rcases Env.get_set q1 with ⟨rfl, z, _⟩ | ⟨n1, z1⟩
    · cases z
    · rcases Env.get_set q2 with ⟨rfl, z, _⟩ | ⟨n2, z2⟩
      · cases z
      · exact sl.sep j l es fs ne z1 z2
  · by_cases hb : b = p
    · subst hb; exact .inr h0
    · rw [upd_ne hb] at q; exact x.new b o q
theorem Slots.freeze : ∀ {is : List Nat} {ρ : Env} {G : Hp}, Slots S ρ σ G H → World S.a g G H → Ext S.a S.G0 S.H0 G H → ∃ G', Slots S (freeze ρ is) σ G' H ∧ World S.a g G' H ∧ Ext S.a S.G0 S.H0 G' H ∧ Same G G'
  | [], _, G, sl, w, x => ⟨G, sl, w, x, Same.refl G⟩
  | i :: is, ρ, G, sl, w, x => by
    unfold Mi.freeze
    cases e : ρ.get i with
    | none => exact Slots.freeze sl w x
    | some q =>
      cases q with
      | val d => exact Slots.freeze sl w x
      | own ds =>
        obtain ⟨G', sl', w', x', s'⟩ := sl.know w x e
        obtain ⟨G2, a1, a2, a3, a4⟩ := Slots.freeze (is := is) sl' w' x'
        exact ⟨G2, a1, a2, a3, s'.trans a4⟩
/-- a list held alone is changed -/
theorem Slots.write {i : Nat} {ds es : List D} {p : Addr} {vs us : List V} (sl : Slots S ρ σ G H) (w : World S.a g G H) (x : Ext S.a S.G0 S.H0 G H) (e : ρ.get i = some (.own ds)) (e1 : σ[i]? = some (some (.ref p))) (e2 : H p = some (.lst vs)) (rs : Reps S.K S.a G es us) :
    Slots S (ρ.set i (some (.own es))) σ G (upd H p (.lst us)) ∧ World S.a g G (upd H p (.lst us)) ∧ Ext S.a S.G0 S.H0 G (upd H p (.lst us)) := by
  obtain ⟨p', vs', f1, f2, n, gp, h0, _⟩ := sl.own i ds e
  have ep : p' = p := by
    rw [e1] at f1
    cases f1; rfl
  subst ep
  have hi : i < ρ.length := by
    unfold Env.get at e
    split at e
    · rename_i q; exact (List.getElem?_eq_some_iff.mp q).1
    · cases e
  have up : ∀ b, S.a.has b → b ≠ p' := fun b hb z => n (z ▸ hb)
  refine ⟨⟨by rw [List.length_set]; exact sl.len, fun j d q => ?_, fun j fs q => ?_, fun j l fs ks ne q1 q2 => ?_⟩, w.move (fun b q => upd_ne (up b q)) (fun b o q => ?_) w.off, ⟨x.gg, x.new, fun b o q nb => ?_, fun b q => x.dm b (upd_none q)⟩⟩
  · rcases Env.get_set q with ⟨rfl, q1, _⟩ | ⟨nj, q1⟩
    · cases q1
    · exact sl.val j d q1
  · rcases Env.get_set q with ⟨rfl, q1, _⟩ | ⟨nj, q1⟩
    · cases q1
      exact ⟨p', us, e1, upd_same, n, gp, h0, rs⟩
    · obtain ⟨p2, vs2, g1, g2, g3, g4, g5, g6⟩ := sl.own j fs q1
      have np : p2 ≠ p' := fun z => by
        subst z
        exact sl.sep j i fs ds nj q1 e (g1.trans e1.symm)
      exact ⟨p2, vs2, g1, by rw [upd_ne np]; exact g2, g3, g4, g5, g6⟩
  · rcases Env.get_set q1 with ⟨rfl, z, _⟩ | ⟨n1, z1⟩
    · rcases Env.get_set q2 with ⟨rfl, z', _⟩ | ⟨n2, z2⟩
      · exact absurd rfl ne
      · exact sl.sep j l ds ks ne e z2
    · rcases Env.get_set q2 with ⟨rfl, z, _⟩ | ⟨n2, z2⟩
      · exact sl.sep j l fs ds ne z1 e
      · exact sl.sep j l fs ks ne z1 z2
  · rw [upd_ne (ne_of_none q gp)]; exact w.sub b o q
  · rw [upd_ne (ne_of_none q h0)]; exact x.kp b o q nb
/-- a new list is held alone by a slot -/
theorem Slots.take {i : Nat} {ds : List D} {v : V} {Hb : Hp} (sl : Slots S ρ σ G H) (hb : ∀ b, Hb b = none → S.H0 b = none) (old : ∀ j es, ρ.get j = some (.own es) → ∃ q o, σ[j]? = some (some (.ref q)) ∧ Hb q = some o) (r : RepF S Hb G H (.lst ds) v) :
    Slots S (ρ.set i (some (.own ds))) (σ.set i (some v)) G H := by
  obtain ⟨p, vs, rfl, e2, n, gp, bp, rs⟩ := r
  refine ⟨by rw [List.length_set, List.length_set, sl.len], fun j d q => ?_, fun j fs q => ?_, fun j l fs ks ne q1 q2 => ?_⟩
  · rcases Env.get_set q with ⟨rfl, q1, _⟩ | ⟨nj, q1⟩
    · cases q1
    · obtain ⟨u, e3, r⟩ := sl.val j d q1
      exact ⟨u, by rw [List.getElem?_set_ne (Ne.symm nj)]; exact e3, r⟩
  · rcases Env.get_set q with ⟨rfl, q1, hl⟩ | ⟨nj, q1⟩
    · cases q1
      exact ⟨p, vs, List.getElem?_set_self (by rw [← sl.len]; exact hl), e2, n, gp, hb p bp, rs⟩
    · obtain ⟨p2, vs2, g1, g2⟩ := sl.own j fs q1
      exact ⟨p2, vs2, by rw [List.getElem?_set_ne (Ne.symm nj)]; exact g1, g2⟩
  · have key : ∀ j fs, j ≠ i → ρ.get j = some (.own fs) → σ[j]? ≠ some (some (.ref p)) := fun j fs nj q z => by
      obtain ⟨q1, o, z1, z2⟩ := old j fs q
      rw [z] at z1
      cases z1
      rw [bp] at z2; cases z2
    rcases Env.get_set q1 with ⟨rfl, z, hl⟩ | ⟨n1, z1⟩
    · rcases Env.get_set q2 with ⟨rfl, z', _⟩ | ⟨n2, z2⟩
      · exact absurd rfl ne
      · rw [List.getElem?_set_self (by rw [← sl.len]; exact hl), List.getElem?_set_ne (Ne.symm n2)]
        exact fun z => key l ks n2 z2 z.symm
    · rcases Env.get_set q2 with ⟨rfl, z, hl⟩ | ⟨n2, z2⟩
      · rw [List.getElem?_set_self (by rw [← sl.len]; exact hl), List.getElem?_set_ne (Ne.symm n1)]
        exact key j fs n1 z1
      · rw [List.getElem?_set_ne (Ne.symm n1), List.getElem?_set_ne (Ne.symm n2)]
        exact sl.sep j l fs ks ne z1 z2
end
end Mi


set_option Elab.async false
set_option maxRecDepth 100000
set_option maxHeartbeats 4000000
/-! Mi13: statements: each form's rule. -/
namespace Mi
open PySem L2
structure GS (X : Cx) (c : TC) (S : Sx) (k : Nat) : Prop where
  gx : GX X c S k
  po : PassesOwn (model X.prog X.w) X.A X.env X.xe
  st : X.stack = X.env :: X.outer ∧ X.env.frame = some X.env.locals
section
variable {X : Cx} {c : TC} {S : Sx} {k : Nat}
/-! ### lists that are lent -/
theorem Slots.lendL : ∀ {is : List Nat} {ρ : Env} {σ : St} {g : Gs} {G H : Hp}, Slots S ρ σ G H → World S.a g G H → ∃ (G' : Hp) (P : List Addr), Slots S (Mi.freeze ρ is) σ G' H ∧ World S.a g G' H ∧ Same G G' ∧ (∀ p ∈ P, G p = none ∧ ∃ vs, G' p = some (.lst vs)) ∧ ∀ b, b ∉ P → G' b = G b
  | [], ρ, σ, g, G, H, sl, w => ⟨G, [], sl, w, Same.refl G, (fun p h => by cases h), fun _ _ => rfl⟩
  | i :: is, ρ, σ, g, G, H, sl, w => by
    unfold Mi.freeze
    cases e : ρ.get i with
    | none => exact Slots.lendL sl w
    | some q =>
      cases q with
      | val d => exact Slots.lendL sl w
      | own ds =>
        obtain ⟨p, vs, e1, e2, n, gp, h0, rs⟩ := sl.own i ds e
        obtain ⟨w2, s2⟩ := Ext.know w e2 gp n
        have hi : i < ρ.length := by
          unfold Env.get at e
          split at e
          · rename_i q; exact (List.getElem?_eq_some_iff.mp q).1
          · cases e
        have sl2 : Slots S (ρ.set i (some (.val (.lst ds)))) σ (upd G p (.lst vs)) H := by
          refine ⟨by rw [List.length_set]; exact sl.len, fun j d q => ?_, fun j es q => ?_, fun j l es fs ne q1 q2 => ?_⟩
          · rcases Env.get_set q with ⟨rfl, q1, _⟩ | ⟨nj, q1⟩
            · cases q1
              refine ⟨_, e1, ?_⟩
              unfold Rep
              exact ⟨p, vs, rfl, upd_same, rs.mono s2⟩
            · obtain ⟨v, q2, r⟩ := sl.val j d q1
              exact ⟨v, q2, r.mono s2⟩
          · rcases Env.get_set q with ⟨rfl, q1, _⟩ | ⟨nj, q1⟩
            · cases q1
            · obtain ⟨p', vs', f1, f2, f3, f4, f5, f6⟩ := sl.own j es q1
              have np : p' ≠ p := fun z => by
                subst z
                exact sl.sep j i es ds nj q1 e (f1.trans e1.symm)
              exact ⟨p', vs', f1, f2, f3, by rw [upd_ne np]; exact f4, f5, f6.mono s2⟩
          · rcases Env.get_set q1 with ⟨rfl, z, _⟩ | ⟨n1, z1⟩
            · cases z
            · rcases Env.get_set q2 with ⟨rfl, z, _⟩ | ⟨n2, z2⟩
              · cases z
              · exact sl.sep j l es fs ne z1 z2
        obtain ⟨G2, P, a1, a2, a3, a4, a5⟩ := Slots.lendL (is := is) sl2 w2
        refine ⟨G2, p :: P, a1, a2, s2.trans a3, fun b hb => ?_, fun b hb => ?_⟩
        · rcases List.mem_cons.mp hb with rfl | hb
          · exact ⟨gp, vs, a3 _ _ upd_same⟩
          · obtain ⟨b1, b2⟩ := a4 b hb
            refine ⟨?_, b2⟩
            cases z : G b with
            | none => rfl
            | some o =>
              have := s2 b o z
              rw [b1] at this
              cases this
        · have h1 : b ≠ p := fun z => hb (z ▸ List.mem_cons_self)
          have h2 : b ∉ P := fun z => hb (List.mem_cons_of_mem _ z)
          rw [a5 b h2, upd_ne h1]
theorem snd_lend {e : Expr} {is : List Nat} {m : E} (h : PE X e (tE S m)) : PE X e (tE S (.lend is m)) := pe_weak h fun σ H Q ⟨ρ, G, gs, sl, w, q⟩ => by
  unfold ev at q
  obtain ⟨G1, P, sl1, w1, s1, hP, out⟩ := Slots.lendL (is := is) sl w
  refine ⟨_, G1, gs, sl1, w1, ?_⟩
  revert q
  cases ev S.c m (freeze ρ is) gs with
  | no => exact fun q => q.elim
  | ex e g => exact fun q => q.elim
  | ok d g' =>
    intro q
    unfold lent at q
    simp only at q
    split at q
    · rename_i hf
      intro G' H' x w' v rv
      have hl : ∀ p ∈ P, ∃ vs, G' p = some (.lst vs) := fun p hp => by
        obtain ⟨_, vs, e2⟩ := hP p hp
        exact ⟨vs, x.gg _ _ e2⟩
      have notP : ∀ {b : Addr} {o : HO}, G b = some o → b ∉ P := fun {b o} e hp => by
        rw [(hP b hp).1] at e; cases e
      refine q (less G' P) H' ⟨fun b o e => ?_, fun b o e => ?_, x.kp, x.dm⟩ ?_ v (rv.less hl hf)
      · rw [less_out (notP e)]
        exact x.gg _ _ (s1 _ _ e)
      · obtain ⟨n1, e1⟩ := less_some e
        rcases x.new b o e1 with z | z
        · rw [out b n1] at z
          exact .inl z
        · exact .inr z
      · refine w'.move (fun b _ => rfl) (fun b o e => w'.sub b o (less_some e).2) fun b hb => ?_
        by_cases hp : b ∈ P
        · exact less_in hp
        · rw [less_out hp]; exact w'.off b hb
    · exact q.elim
theorem sts_fz {st : Stmt} {m : Mi.S} {is : List Nat} (h : PS X st (tS S m)) : PS X st (tS S (.fz is m)) := ps_weak h fun Dn σ H ⟨ρ, G, g, sl, w, x, r⟩ => by
  unfold exS at r
  obtain ⟨G', sl', w', x', s'⟩ := Slots.freeze (is := is) sl w x
  exact ⟨_, G', g, sl', w', x', SRes.shift s' r⟩
/-- slots in the wake of another wish -/
theorem Slots.wishW {ρ : Env} {σ : St} {G H : Hp} {W : WX} (h : Slots S ρ σ G H) : Slots { S with W := W } ρ σ G H := ⟨h.len, h.val, h.own, h.sep⟩
theorem Slots.unwishW {ρ : Env} {σ : St} {G H : Hp} {W : WX} (h : Slots { S with W := W } ρ σ G H) : Slots S ρ σ G H := ⟨h.len, h.val, h.own, h.sep⟩
/-- within an except clause -/
abbrev hotS (S : Sx) (a : Addr) (j : Nat) (dd : Addr) : Sx := { S with a := S.a.hot (some (a, j, dd)), W := fun _ _ _ _ => False }
theorem Slots.toHot {ρ : Env} {σ : St} {G H : Hp} {a : Addr} {j : Nat} {dd : Addr} (n : S.a.er = none) (h : Slots S ρ σ G H) : Slots (hotS S a j dd) ρ σ G H :=
  ⟨h.len, fun i d e => by
    obtain ⟨v, e1, r⟩ := h.val i d e
    exact ⟨v, e1, r.toHot n⟩, fun i ds e => by
    obtain ⟨p, vs, e1, e2, e3, e4, e5, r⟩ := h.own i ds e
    exact ⟨p, vs, e1, e2, e3, e4, e5, r.toHot n⟩, h.sep⟩
theorem all_get {ρ : Env} (h : ρ.all noXc = true) {i : Nat} {q : Cell} (e : ρ.get i = some q) : noXc (some q) = true := by
  unfold Env.get at e
  split at e
  · rename_i z
    cases e
    exact List.all_eq_true.mp h _ (List.mem_of_getElem? z)
  · cases e
theorem Slots.toCold {ρ : Env} {σ : St} {G H : Hp} {a : Addr} {j : Nat} {dd : Addr} (n : ρ.all noXc = true) (h : Slots (hotS S a j dd) ρ σ G H) : Slots S ρ σ G H :=
  ⟨h.len, fun i d e => by
    obtain ⟨v, e1, r⟩ := h.val i d e
    exact ⟨v, e1, r.toCold (all_get n e)⟩, fun i ds e => by
    obtain ⟨p, vs, e1, e2, e3, e4, e5, r⟩ := h.own i ds e
    exact ⟨p, vs, e1, e2, e3, e4, e5, r.toCold (all_get n e)⟩, h.sep⟩
theorem Slots.gone {ρ ρ2 : Env} {σ : St} {G H : Hp} {a : Addr} {j : Nat} {dd : Addr} {i : Nat} (h : Slots (hotS S a j dd) ρ σ G H) (e : Mi.gone ρ i = some ρ2) : Slots S ρ2 (σ.set i none) G H := by
  unfold Mi.gone at e
  split at e
  · rename_i n
    cases e
    exact h.setN.toCold n
  · cases e
theorem sts_wrap {st : Stmt} {m : Mi.S} {is : List Nat} (h : PS X st (tS S m)) : PS X st (tS S (c.wrap is m)) := by
  unfold TC.wrap
  split
  · exact h
  · exact sts_fz h
theorem dm0 {G H : Hp} (x : Ext S.a S.G0 S.H0 G H) : ∀ b, H b = none → S.H0 b = none := x.dm
/-- x = e, the value's reading being tF or tE -/
theorem asg_core {i : Nat} {m : E} {Dn : Ends} {σ : St} {H : Hp} (h : tS S (.asg i m) Dn σ H) : (isFr m = true → tF S m σ H fun x H1 => gName i x σ H1 Dn.nx) ∧ (isFr m = false → tE S m σ H fun x H1 => gName i x σ H1 Dn.nx) := by
  obtain ⟨ρ, G, g, sl, w, x, r⟩ := h
  unfold exS at r
  refine ⟨fun hf => ⟨ρ, G, g, sl, w, SRes.step sl x r fun d g' G' H' x1 w1 sl1 x2 q v rv => ?_⟩, fun hf => ⟨ρ, G, g, sl, w, SRes.step sl x r fun d g' G' H' x1 w1 sl1 x2 q v rv => ?_⟩⟩
  · rw [hf] at q
    cases d with
    | lst ds =>
      refine q _ G' H' (Slots.take (Hb := H) sl1 x.dm (fun j es e => ?_) rv) w1 x2 (Same.refl G')
      obtain ⟨p, vs, e1, e2, _⟩ := sl.own j es e
      exact ⟨p, _, e1, e2⟩
    | _ => exact q _ G' H' (sl1.setV rv) w1 x2 (Same.refl G')
  · rw [hf] at q
    cases d <;> exact q _ G' H' (sl1.setV rv) w1 x2 (Same.refl G')
theorem swaps_no {e : Expr} (h : isComp e = false) (t : Option Expr) (l : Nat) (env : PySem.Env) : swapsWith e t l env = pure false := by
  cases e <;> first | rfl | (simp [isComp] at h)
theorem sts_asg (g : GS X c S k) {x : Str} {i : Nat} {e : Expr} {m : E} {p pos : Pos} (hx : c.tgt x = some i) (hc : isComp e = false) (h1 : PE X e (tE S m)) (h2 : isFr m = true → PE X e (tF S m)) : PS X (.Assign [.Name x p] e pos) (tS S (.asg i m)) := by
  obtain ⟨s1, s2, s3, s4⟩ := g.gx.store hx
  cases hf : isFr m with
  | true => exact ps_weak (ps_set s1 s2 s3 (h2 hf) (swaps_no hc _ _ _) s4) fun Dn σ H h => (asg_core h).1 hf
  | false => exact ps_weak (ps_set s1 s2 s3 h1 (swaps_no hc _ _ _) s4) fun Dn σ H h => (asg_core h).2 hf
/-- x = [..]: either way of storing -/
theorem sts_asgC (g : GS X c S k) {n : Nat} {x : Str} {i : Nat} {e : Expr} {m : E} {p pos : Pos} (hx : c.tgt x = some i) (hc : isComp e = true) (h : trE c false n e = some m) : PS X (.Assign [.Name x p] e pos) (tS S (.asg i m)) := by
  have h0 := h
  obtain ⟨s1, s2, s3, s4⟩ := g.gx.store hx
  have all := (snd_all n).e g.gx h
  have pe := all.2.2.1 rfl
  cases n with
  | zero => unfold trE at h; cases h
  | succ n =>
  have ih := snd_all n
  unfold trE at h
  simp only at h
  cases e <;> first | (simp [isComp] at hc; done) | skip
  case SetComp => cases h
  case DictComp => cases h
  case ListComp elt gens sc lpos =>
  have hsw : swapsWith (.ListComp elt gens sc lpos) (some (.Name x p)) pos.line X.env = pure (X.env.blockKind == .function && X.env.kindOf x == some .local && p.line == lpos.line && !(sc.names.any fun (n, k) => n == x && (k == .local || k == .cell))) := rfl
  have shape : (∃ tg it ifs, gens = [⟨tg, it, ifs, 0⟩]) ∨ (∃ tg it tg1 it1, gens = [⟨tg, it, [], 0⟩, ⟨tg1, it1, [], 0⟩]) := by
    split at h
    all_goals first | (rename_i z; cases z; exact .inl ⟨_, _, _, rfl⟩) | (rename_i z; cases z; exact .inr ⟨_, _, _, _, rfl⟩) | skip
    all_goals first | (rename_i z _ _; cases z; done) | (rename_i z _; cases z; done) | (rename_i z; cases z; done) | (cases h; done) | skip
  have fr : isFr m = true := by
    rcases shape with ⟨tg, it, ifs, rfl⟩ | ⟨tg, it, tg1, it1, rfl⟩
    all_goals
      simp only at h
      split at h
      · split at h
        · split at h
          · cases h; rfl
          · cases h
        · cases h
      · cases h
  generalize hb : (X.env.blockKind == .function && X.env.kindOf x == some .local && p.line == lpos.line && !(sc.names.any fun (n, k) => n == x && (k == .local || k == .cell))) = b at hsw
  cases b with
  | false => exact ps_weak (ps_set s1 s2 s3 (pe.2.2 fr) hsw s4) fun Dn σ H h => (asg_core h).1 fr
  | true =>
    have loc : X.env.scope.names.lookup x = some .local := by
      simp only [Bool.and_eq_true] at hb
      have q := hb.1.1.2
      show X.env.kindOf x = _
      simpa using q
    rcases shape with ⟨tg, it, ifs, rfl⟩ | ⟨tg, it, tg1, it1, rfl⟩
    · simp only at h
      split at h
      · rename_i hbk
        obtain ⟨hbk, hc2⟩ := hbk
        split at h
        · rename_i hi ht hq he
          split at h
          · rename_i hin
            cases h
            have B := blkOk_ok g.gx hbk
            refine ps_weak (ps_setLc (g.gx.calm hc2) s1 s2 loc hsw (ih.i g.gx hi).2.1 B (snd_tgB g.gx hc2 hbk ht) (fun s H C cl fp => ih.q (gx_blk g.gx hc2 hbk s H C cl fp) hq)
              (fun s H C cl fp => ((ih.e (gx_blk g.gx hc2 hbk s H C cl fp) he).2.2.1 rfl).1) (fold_set (ih.i (tg := .Name x p) g.gx hi).1 _)) fun Dn σ H h => ?_
            have q := comp_core hin ((asg_core h).1 rfl)
            rw [← g.gx.hK] at q
            exact q
          · cases h
        · cases h
      · cases h
    · simp only at h
      split at h
      · rename_i hbk
        obtain ⟨hbk, hc2⟩ := hbk
        split at h
        · rename_i hi ht hi1 ht1 he
          split at h
          · rename_i hin
            cases h
            rw [Bool.and_eq_true] at hin
            have B := blkOk_ok g.gx hbk
            refine ps_weak (ps_setLc2 (g.gx.calm hc2) s1 s2 loc hsw (ih.i g.gx hi).2.1 B (tgIx_sub hin.2) (snd_tgB g.gx hc2 hbk ht) (fun s H C cl fp => pts_nil)
              (fun s H C cl fp => (ih.i (gx_blk g.gx hc2 hbk s H C cl fp) hi1).2.2) (snd_tgB g.gx hc2 hbk ht1) (fun s H C cl fp => pts_nil) (fun s H C cl fp => ((ih.e (gx_blk g.gx hc2 hbk s H C cl fp) he).2.2.1 rfl).1)
              (fold_set (ih.i (tg := .Name x p) g.gx hi).1 _) (fun env y => fold_set (ih.i (tg := .Name x p) (gx_blk g.gx hc2 hbk X.s_0 X.H_0 0 [] []) hi1).1 env y)) fun Dn σ H h => ?_
            have q := comp2_core hin.1 ((asg_core h).1 rfl)
            rw [← g.gx.hK] at q
            exact q
          · cases h
        · cases h
      · cases h
end
end Mi


set_option Elab.async false
set_option maxRecDepth 100000
set_option maxHeartbeats 4000000
/-! Mi14: statements: the rest of the forms, and that what is translated is sound. -/
namespace Mi
open PySem L2
section
variable {X : Cx} {c : TC} {S : Sx} {k : Nat}
theorem swapsSole {ts : List Expr} {kk : Nat} {pt : Pos} {e : Expr} {l : Nat} {env : PySem.Env} : swapsWithSole [.Tuple ts kk pt] e l env = pure false := by
  show swapsWith e (some (.Tuple ts kk pt)) l env = pure false
  cases e <;> rfl
theorem noSwapT {ts : List Expr} {kk : Nat} {pt : Pos} {e : Expr} {env : PySem.Env} (h : isTup e = false) : swappedStores [.Tuple ts kk pt] e env = pure none := by
  cases e <;> first | rfl | (simp [isTup] at h)
theorem sts_asgT (g : GS X c S k) {ts : List Expr} {is : List Nat} {e : Expr} {m : E} {kk : Nat} {pt pos : Pos} (ht : isTup e = false) (hc : c.hot = false) (h1 : trTgs c ts = some is) (he : PE X e (tE S m)) : PS X (.Assign [.Tuple ts kk pt] e pos) (tS S (.asgT is m)) := by
  have tg : trTg c (.Tuple ts kk pt) = some (.tup is) := by show (if c.hot = true then none else (trTgs c ts).map Tg.tup) = some (.tup is); rw [if_neg (by rw [hc]; exact Bool.false_ne_true), h1]; rfl
  refine ps_weak (ps_asg he (snd_tg g.gx tg) swapsSole (noSwapT ht) rfl) fun Dn σ H ⟨ρ, G, gs, sl, w, x, r⟩ => ?_
  unfold exS at r
  refine ⟨ρ, G, gs, sl, w, SRes.step sl x r fun d g' G' H' x1 w1 sl1 x2 q v rv => ?_⟩
  cases hb : bindTg ρ (.tup is) d with
  | none => rw [hb] at q; exact q.elim
  | some ρ1 =>
    rw [hb] at q
    rw [g.gx.hK]
    exact gTg_of w1.sub rv hb fun σ1 tr _ => q σ1 G' H' (tr G' H' (Same.refl G') sl1) w1 x2 (Same.refl G')
theorem aug_rule {oo : Operator} {o : Op} (h : trAug oo = some o) : PIp X oo (fun x y H Q => ∃ a b z, x = .int a ∧ y = .int b ∧ opD o (.int a) (.int b) = some (.int z) ∧ Q (.int z) H) := by
  intro pins s σ H x y v u Q I rx ry q
  obtain ⟨a, b, z, rfl, rfl, e, q⟩ := q
  cases oo <;> simp only [trAug, Option.some.injEq, reduceCtorEq] at h <;> subst h
  · unfold opD at e
    cases e
    exact iop_add pins s σ H _ _ v u Q I rx ry ⟨_, _, rfl, rfl, q⟩
  · unfold opD at e
    cases e
    exact iop_sub pins s σ H _ _ v u Q I rx ry ⟨_, _, rfl, rfl, q⟩
  · have e : (if (smallI a || smallI b) = true then some (D.int (a * b)) else none) = some (D.int z) := e
    split at e
    · rename_i hl
      cases e
      have hc : CMul a b := by
        rcases Bool.or_eq_true _ _ ▸ hl with h | h
        · exact .inl (smallI_iff h)
        · exact .inr (smallI_iff h)
      exact iop_mul pins s σ H _ _ v u Q I rx ry ⟨_, _, rfl, rfl, hc, q⟩
    · cases e
theorem opD_int {oo : Operator} {o : Op} (h : trAug oo = some o) {a b : Int} {z : D} (e : opD o (.int a) (.int b) = some z) : ∃ i, z = .int i := by
  cases oo <;> simp only [trAug, Option.some.injEq, reduceCtorEq] at h <;> subst h
  · cases e; exact ⟨_, rfl⟩
  · cases e; exact ⟨_, rfl⟩
  · have e : (if (smallI a || smallI b) = true then some (D.int (a * b)) else none) = some z := e
    split at e
    · cases e; exact ⟨_, rfl⟩
    · cases e
theorem sts_aug (g : GS X c S k) {x : Str} {i : Nat} {oo : Operator} {o : Op} {e : Expr} {m : E} {p pos : Pos} (hx : c.tgt x = some i) (ho : trAug oo = some o) (he : PE X e (tE S m)) : PS X (.AugAssign (.Name x p) oo e pos) (tS S (.aug i o m)) := by
  obtain ⟨s1, s2, s3, s4⟩ := g.gx.store hx
  refine ps_weak (ps_aug s1 s2 s3 he (aug_rule ho) s4) fun Dn σ H ⟨ρ, G, gs, sl, w, x, r⟩ => ?_
  unfold exS at r
  cases e1 : ρ.get i with
  | none => rw [e1] at r; exact r.elim
  | some q0 =>
    cases q0 with
    | own ds => rw [e1] at r; exact r.elim
    | val d =>
      rw [e1] at r
      simp only at r
      obtain ⟨v, e2, rv⟩ := sl.val i d e1
      refine ⟨v, e2, ρ, G, gs, sl, w, SRes.step sl x r fun d2 g' G' H' x1 w1 sl1 x2 q v2 rv2 => ?_⟩
      unfold onInts at q
      cases d with
      | int a =>
        cases d2 with
        | int b =>
          simp only at q
          cases hz : opD o (.int a) (.int b) with
          | none => rw [hz] at q; exact q.elim
          | some z =>
            rw [hz] at q
            obtain ⟨z, rfl⟩ := opD_int ho hz
            cases rv.inj_int
            cases rv2.inj_int
            exact ⟨a, b, z, rfl, rfl, hz, q _ G' H' (sl1.setV (by unfold Rep; rfl)) w1 x2 (Same.refl G')⟩
        | _ => exact q.elim
      | _ => exact q.elim
theorem sts_app (g : GS X c S k) {x : Str} {i : Nat} {e : Expr} {m : E} {p apos cpos pos : Pos} (hx : c.slot x = some i) (hl : (apos.endLine == cpos.line) = true) (hs : notStar e = true) (he : PE X e (tE S m)) :
    PS X (.Expr (.Call (.Attribute (.Name x p) "append" apos) [e] [] cpos) pos) (tS S (.app i m)) := by
  refine ps_weak (ps_expr (pe_bm PySem.F.plainAttrs_list PySem.F.slot_list_append PySem.F.type_list_append mt_append (snd_var g.gx hx) (pa_cons he pa_nil (star_cons hs _ _)) rfl (by rw [star_cons hs]; rfl) hl (star_cons hs _ _) rfl) rfl) fun Dn σ H ⟨ρ, G, gs, sl, w, x, r⟩ => ?_
  unfold exS at r
  cases e1 : ρ.get i with
  | none => rw [e1] at r; exact r.elim
  | some q0 =>
    cases q0 with
    | val ds => rw [e1] at r; exact r.elim
    | own ds =>
      rw [e1] at r
      simp only at r
      obtain ⟨p, vs, f1, f2, n, gp, h0, rs⟩ := sl.own i ds e1
      refine ⟨_, f1, .inl ⟨rfl, vs, SqL.of f2⟩, ρ, G, gs, sl, w, SRes.step sl x r fun d2 g' G' H' x1 w1 sl1 x2 q v2 rv2 => ?_⟩
      split at q
      · rename_i hlen
        have k1 := x1.kp _ _ f2 n
        have r1 := rs.mono x1.gg
        refine ⟨p, vs, v2, rfl, rfl, k1, by rw [rs.length]; exact hlen, ?_⟩
        obtain ⟨a1, a2, a3⟩ := Slots.write sl1 w1 x2 e1 f1 k1 (r1.append (Reps.cons rv2 Reps.nil))
        exact q _ G' _ a1 a2 a3 (Same.refl G')
      · exact q.elim
theorem sts_setix (g : GS X c S k) {x : Str} {i : Nat} {ke e : Expr} {mk m : E} {p pt pos : Pos} (hx : c.slot x = some i) (hc : isComp e = false) (hn : ∀ lo hi st p, ke ≠ .Slice lo hi st p) (hk : PE X ke (tE S mk)) (he : PE X e (tE S m)) :
    PS X (.Assign [.Subscript (.Name x p) ke pt] e pos) (tS S (.setix i mk m)) := by
  refine ps_weak (ps_asg he (pg_sub (snd_var g.gx hx) hk set_list (by intro _; cases ke <;> first | rfl | exact absurd rfl (hn _ _ _ _))) (show swapsWithSole [.Subscript (.Name x p) ke pt] e pos.line X.env = pure false from swaps_no hc (some (.Subscript (.Name x p) ke pt)) pos.line X.env) (by cases e <;> rfl) (by rfl)) fun Dn σ H ⟨ρ, G, gs, sl, w, x, r⟩ => ?_
  unfold exS at r
  refine ⟨ρ, G, gs, sl, w, SRes.step sl x r fun d2 g' G' H' x1 w1 sl1 x2 q v2 rv2 => ?_⟩
  cases e1 : ρ.get i with
  | none => rw [e1] at q; exact q.elim
  | some q0 =>
    cases q0 with
    | val dd =>
      rw [e1] at q
      simp only at q
      obtain ⟨v, f1, rv⟩ := sl1.val i dd e1
      refine ⟨_, f1, ρ, G', g', sl1, w1, SRes.step sl1 x2 q fun d3 g3 G3 H3 x3 w3 sl3 x4 q3 v3 rv3 => ?_⟩
      cases hj : setG g3 dd d3 d2 with
      | none => rw [hj] at q3; exact q3.elim
      | some g4 =>
        rw [hj] at q3
        obtain ⟨p, xs, j, jj, rfl, rfl, k1, k2, w4, x5⟩ := setG_at w3 (rv.mono x3.gg) rv3 (rv2.mono x3.gg) hj
        exact ⟨p, xs, j, jj, rfl, rfl, k1, k2, q3 _ G3 _ (sl3.ext x5) w4 (x4.trans x5) (Same.refl G3)⟩
    | own ds =>
      rw [e1] at q
      simp only at q
      obtain ⟨p, vs, f1, f2, n, gp, h0, rs⟩ := sl1.own i ds e1
      refine ⟨_, f1, ρ, G', g', sl1, w1, SRes.step sl1 x2 q fun d3 g3 G3 H3 x3 w3 sl3 x4 q3 v3 rv3 => ?_⟩
      cases d3 with
      | int j =>
        simp only at q3
        cases rv3.inj_int
        cases hj : ixN ds.length j with
        | none => rw [hj] at q3; exact q3.elim
        | some jj =>
          rw [hj] at q3
          have k1 := x3.kp _ _ f2 n
          have r1 := rs.mono x3.gg
          obtain ⟨a1, a2, a3⟩ := Slots.write sl3 w3 x4 e1 f1 k1 (r1.set (i := jj) (rv2.mono x3.gg))
          exact ⟨p, vs, j, jj, rfl, rfl, k1, by rw [rs.length]; exact hj, q3 _ G3 _ a1 a2 a3 (Same.refl G3)⟩
      | _ => exact q3.elim
theorem sts_setg (g : GS X c S k) {ae ke e : Expr} {ma mk m : E} {pt pos : Pos} (hc : isComp e = false) (hn : ∀ lo hi st p, ke ≠ .Slice lo hi st p) (ha : PE X ae (tE S ma)) (hk : PE X ke (tE S mk)) (he : PE X e (tE S m)) :
    PS X (.Assign [.Subscript ae ke pt] e pos) (tS S (.setg ma mk m)) := by
  refine ps_weak (ps_asg he (pg_sub ha hk set_list (by intro _; cases ke <;> first | rfl | exact absurd rfl (hn _ _ _ _))) (show swapsWithSole [.Subscript ae ke pt] e pos.line X.env = pure false from swaps_no hc (some (.Subscript ae ke pt)) pos.line X.env) (by cases e <;> rfl) (by rfl)) fun Dn σ H ⟨ρ, G, gs, sl, w, x, r⟩ => ?_
  unfold exS at r
  refine ⟨ρ, G, gs, sl, w, SRes.step sl x r fun d2 g' G' H' x1 w1 sl1 x2 q v2 rv2 => ?_⟩
  refine ⟨ρ, G', g', sl1, w1, SRes.step sl1 x2 q fun dd g2 G2 H2 x3 w2 sl2 x4 q2 v rv => ?_⟩
  refine ⟨ρ, G2, g2, sl2, w2, SRes.step sl2 x4 q2 fun d3 g3 G3 H3 x5 w3 sl3 x6 q3 v3 rv3 => ?_⟩
  cases hj : setG g3 dd d3 d2 with
  | none => rw [hj] at q3; exact q3.elim
  | some g4 =>
    rw [hj] at q3
    obtain ⟨p, xs, j, jj, rfl, rfl, k1, k2, w4, x7⟩ := setG_at w3 (rv.mono x5.gg) rv3 ((rv2.mono x3.gg).mono x5.gg) hj
    exact ⟨p, xs, j, jj, rfl, rfl, k1, k2, q3 _ G3 _ (sl3.ext x7) w4 (x6.trans x7) (Same.refl G3)⟩
theorem sts_appg {a e : Expr} {ma m : E} {apos cpos pos : Pos} (hb : ∀ env, attributeBase a "append" env (eval a env) = eval a env) (hl : (apos.endLine == cpos.line) = true) (hs : notStar e = true) (ha : PE X a (tE S ma)) (he : PE X e (tE S m)) :
    PS X (.Expr (.Call (.Attribute a "append" apos) [e] [] cpos) pos) (tS S (.appg ma m)) := by
  refine ps_weak (ps_expr (pe_bm PySem.F.plainAttrs_list PySem.F.slot_list_append PySem.F.type_list_append mt_append ha (pa_cons he pa_nil (star_cons hs _ _)) (hb _) (by rw [star_cons hs]; rfl) hl (star_cons hs _ _) rfl) rfl) fun Dn σ H ⟨ρ, G, gs, sl, w, x, r⟩ => ?_
  unfold exS at r
  refine ⟨ρ, G, gs, sl, w, SRes.step sl x r fun d g' G' H' x1 w1 sl1 x2 q v rv => ?_⟩
  split at q
  · rename_i hs
    have hv : ∃ p xs, v = .ref p ∧ H' p = some (.lst xs) := by
      cases d with
      | sub j =>
        obtain ⟨p, e2, rfl⟩ := repB_sub (S := S) (H := H') (G := G') rv
        have hj : j < g'.ls.length := of_decide_eq_true hs
        obtain ⟨p', e4, e5⟩ := w1.at_ (List.getElem?_eq_getElem hj)
        rw [e2] at e4
        cases e4
        exact ⟨_, _, rfl, e5⟩
      | _ => cases hs
    obtain ⟨p, xs, rfl, e5⟩ := hv
    refine ⟨.inl ⟨rfl, _, SqL.of e5⟩, ρ, G', g', sl1, w1, SRes.step sl1 x2 q fun d2 g2 G2 H2 x3 w2 sl2 x4 q2 v2 rv2 => ?_⟩
    cases hj : appG g2 d d2 with
    | none => rw [hj] at q2; exact q2.elim
    | some g4 =>
      rw [hj] at q2
      obtain ⟨p', xs', e6, e7, e8, w3, x5⟩ := appG_at w2 (rv.mono x3.gg) rv2 hj
      cases e6
      exact ⟨p, xs', v2, rfl, rfl, e7, e8, q2 _ G2 _ (sl2.ext x5) w3 (x4.trans x5) (Same.refl G2)⟩
  · exact q.elim
theorem sts_expr {e : Expr} {m : E} {pos : Pos} (hc : isComp e = false) (he : PE X e (tE S m)) : PS X (.Expr e pos) (tS S (.expr m)) :=
  ps_weak (ps_expr he (swaps_no hc _ _ _)) fun Dn σ H ⟨ρ, G, gs, sl, w, x, r⟩ => by
  unfold exS at r
  exact ⟨ρ, G, gs, sl, w, SRes.step sl x r fun d2 g' G' H' x1 w1 sl1 x2 q v2 rv2 => q σ G' H' sl1 w1 x2 (Same.refl G')⟩
theorem sts_if {t : Expr} {a b : List Stmt} {mt : E} {ma mb : List Mi.S} {pos : Pos} (ht : PT X t (tT S mt)) (ha : PSs X a (tSs S ma)) (hb : PSs X b (tSs S mb)) : PS X (.If t a b pos) (tS S (.ife mt ma mb)) :=
  ps_weak (ps_if ht ha hb) fun Dn σ H ⟨ρ, G, gs, sl, w, x, r⟩ => by
  unfold exS at r
  refine ⟨ρ, G, gs, sl, w, SRes.step sl x r fun d g' G' H' x1 w1 sl1 x2 q => ?_⟩
  cases e1 : truthG g' d with
  | none => rw [e1] at q; exact q.elim
  | some b =>
    rw [e1] at q
    refine ⟨b, rfl, ?_⟩
    cases b with
    | true => exact iteT ⟨ρ, G', g', sl1, w1, x2, q⟩
    | false => exact iteF ⟨ρ, G', g', sl1, w1, x2, q⟩
theorem sts_ret {e : Expr} {m : E} {pos : Pos} (he : PE X e (tE S m)) : PS X (.Return (some e) pos) (tS S (.ret m)) :=
  ps_weak (ps_ret he) fun Dn σ H ⟨ρ, G, gs, sl, w, x, r⟩ => by
  unfold exS at r
  exact ⟨ρ, G, gs, sl, w, SRes.step sl x r fun d2 g' G' H' x1 w1 sl1 x2 q v2 rv2 => q v2 G' H' w1 x2 rv2⟩
theorem sts_retN {pos : Pos} : PS X (.Return none pos) (tS S .retN) := ps_weak ps_retN fun Dn σ H ⟨ρ, G, gs, sl, w, x, r⟩ => by
  unfold exS at r
  exact r _ G H w x (by unfold Rep; rfl)
theorem sts_brk {pos : Pos} : PS X (.Break pos) (tS S .brk) := ps_weak ps_break fun Dn σ H ⟨ρ, G, gs, sl, w, x, r⟩ => by
  unfold exS at r
  exact r σ G H sl w x (Same.refl G)
theorem sts_cnt {pos : Pos} : PS X (.Continue pos) (tS S .cnt) := ps_weak ps_continue fun Dn σ H ⟨ρ, G, gs, sl, w, x, r⟩ => by
  unfold exS at r
  exact r σ G H sl w x (Same.refl G)
theorem sts_pass {pos : Pos} : PS X (.Pass pos) (tS S .pass) := ps_weak ps_pass fun Dn σ H ⟨ρ, G, gs, sl, w, x, r⟩ => by
  unfold exS at r
  exact r σ G H sl w x (Same.refl G)
theorem stss_nil : PSs X [] (tSs S []) := pss_weak pss_nil fun Dn σ H ⟨ρ, G, gs, sl, w, x, r⟩ => by
  unfold exL at r
  exact r σ G H sl w x (Same.refl G)
theorem stss_cons {s : Stmt} {ss : List Stmt} {m : Mi.S} {ms : List Mi.S} (h1 : PS X s (tS S m)) (h2 : PSs X ss (tSs S ms)) : PSs X (s :: ss) (tSs S (m :: ms)) :=
  pss_weak (pss_cons h1 h2) fun Dn σ H ⟨ρ, G, gs, sl, w, x, r⟩ => by
  unfold exL at r
  exact ⟨ρ, G, gs, sl, w, x, r.seq.mono (fun σ H ⟨ρ, G, g, sl, w, x, _, q⟩ => ⟨ρ, G, g, sl, w, x, q⟩) (fun _ _ h => h) (fun _ _ h => h) (fun _ _ h => h)⟩
theorem sts_for (g : GS X c S k) {tg it : Expr} {body : List Stmt} {mt : Tg} {mi : E} {mb : List Mi.S} {pos : Pos} (ht : trTg c tg = some mt) (hc : c.hot = false) (hn : notSet it = true) (hi : PI X tg it (tJ S mi)) (hb : PSs X body (tSs S mb)) :
    PS X (.For tg it body [] pos) (tS S (.forS mt mi mb)) :=
  ps_weak (ps_for g.po (g.gx.calm hc) hi (snd_tg g.gx ht) hb (fold_set hn _)) fun Dn σ H ⟨ρ, G, gs, sl, w, x, r⟩ => by
  unfold exS at r
  refine ⟨ρ, G, gs, sl, w, SRes.step sl x r fun xs g1 G1 H1 x1 w1 sl1 x2 q J hJ => ?_⟩
  generalize hF : (fun (x : D) (ρ : Env) (g : Gs) => match bindTg ρ mt x with
    | some ρ1 => exL S.c mb ρ1 g
    | none => SR.no) = F at q
  let W : Nat → St → Hp → Prop := fun i σ H => i ≤ xs.length ∧ ∃ ρ G g, Slots S ρ σ G H ∧ World S.a g G H ∧ Ext S.a S.G0 S.H0 G H ∧ Same G1 G ∧ SRes S G (forL F (xs.drop i) ρ g) Dn
  refine ⟨fun i m σ H => m = xs.length - i ∧ W i σ H, ⟨_, rfl, Nat.zero_le _, ρ, G1, g1, sl1, w1, x2, Same.refl G1, q⟩, ?_⟩
  rintro i m σ H ⟨rfl, hi, ρ, G, g2, sl, w, x, s1, q⟩
  have cnd : Same G1 G ∧ Same G H := ⟨s1, w.sub⟩
  by_cases hlt : i < xs.length
  · refine .inr ⟨hJ.goes i G H hlt cnd, W (i + 1), fun σ' H' p' => ⟨xs.length - (i + 1), by omega, rfl, p'⟩, fun y H' hy => ?_⟩
    obtain ⟨d, ed, k1⟩ := hJ.yields i H y H' G hlt cnd hy
    obtain ⟨G', x3, w3, rd⟩ := k1 G g2 w s1
    rw [drop_at ed] at q
    unfold forL at q
    rw [← hF] at q
    simp only at q
    cases hbd : bindTg ρ mt d with
    | none => rw [hbd] at q; exact q.elim
    | some ρ1 =>
      rw [hbd] at q
      simp only at q
      rw [g.gx.hK]
      refine gTg_of w3.sub rd hbd fun σ2 tr _ => ⟨ρ1, G', g2, tr G' H' (Same.refl G') (sl.ext x3), w3, x.trans x3, (SRes.shift x3.gg q).turn.mono (fun σ H ⟨ρ, G2, g, sl, w, x, s2, q⟩ => ⟨hlt, ρ, G2, g, sl, w, x, (s1.trans x3.gg).trans s2, by rw [← hF]; exact q⟩) (fun _ _ h => h) (fun _ _ h => h) (fun σ H ⟨ρ, G2, g, sl, w, x, s2, q⟩ => ⟨hlt, ρ, G2, g, sl, w, x, (s1.trans x3.gg).trans s2, by rw [← hF]; exact q⟩)⟩
  · have ei : i = xs.length := by omega
    subst ei
    rw [List.drop_length] at q
    unfold forL at q
    exact .inl ⟨hJ.stops G H cnd, q σ G H sl w x (Same.refl G)⟩
theorem sts_while (g : GS X c S k) {t : Expr} {body : List Stmt} {mt : E} {mb : List Mi.S} {fz : List Nat} {pos : Pos} (ht : PT X t (tT S mt)) (hb : PSs X body (tSs S mb)) : PS X (.While t body [] pos) (tS S (.whl fz mt mb)) :=
  ps_weak (ps_while g.po ht hb) fun Dn σ H ⟨ρ, G, gs, sl, w, x, r⟩ => by
  unfold exS at r
  generalize hT : (fun (ρ : Env) (g : Gs) => brw mt ρ g (ev S.c mt ρ g)) = T at r
  generalize hB : (fun (ρ : Env) (g : Gs) => exL S.c mb ρ g) = B at r
  let W : Nat → St → Hp → Prop := fun m σ H => ∃ ρ G g, Slots S ρ σ G H ∧ World S.a g G H ∧ Ext S.a S.G0 S.H0 G H ∧ SRes S G (whlL fz T B m ρ g) Dn
  refine ⟨W, ⟨turns, ρ, G, gs, sl, w, x, r⟩, ?_⟩
  rintro m σ H ⟨ρ, G, g2, sl, w, x, q⟩
  cases m with
  | zero => unfold whlL at q; exact q.elim
  | succ m =>
    unfold whlL at q
    obtain ⟨G', sl', w', x', s'⟩ := Slots.freeze (is := fz) sl w x
    have q := SRes.shift s' q
    rw [← hT] at q
    refine ⟨_, G', g2, sl', w', ?_⟩
    refine SRes.step sl' x' q fun d g3 G3 H3 x3 w3 sl3 x4 q3 => ?_
    cases e1 : truthG g3 d with
    | none => rw [e1] at q3; exact q3.elim
    | some b =>
      rw [e1] at q3
      refine ⟨b, rfl, ?_⟩
      cases b with
      | false => exact iteF (q3 σ G3 H3 sl3 w3 x4 (Same.refl G3))
      | true =>
        refine iteT ⟨W m, fun σ' H' p' => ⟨m, Nat.lt_succ_self m, p'⟩, ?_⟩
        rw [← hB] at q3
        refine ⟨_, G3, g3, sl3, w3, x4, q3.turn.mono (fun σ H ⟨ρ, G2, g, sl, w, x, s2, q⟩ => ?_) (fun _ _ h => h) (fun _ _ h => h) (fun σ H ⟨ρ, G2, g, sl, w, x, s2, q⟩ => ?_)⟩
        · exact ⟨ρ, G2, g, sl, w, x, by rw [← hT, ← hB]; exact q⟩
        · exact ⟨ρ, G2, g, sl, w, x, by rw [← hT, ← hB]; exact q⟩
theorem Slots.ofNox {ρ : Env} {σ : St} {G H : Hp} (h : Slots S ρ σ G H) : Slots S.nox ρ σ G H := ⟨h.len, h.val, h.own, h.sep⟩
theorem Slots.unNox {ρ : Env} {σ : St} {G H : Hp} (h : Slots S.nox ρ σ G H) : Slots S ρ σ G H := ⟨h.len, h.val, h.own, h.sep⟩
theorem gs_nox (g : GS X c S k) : GS X.nox c S.nox k :=
  ⟨⟨g.gx.N, g.gx.nd, g.gx.nm, g.gx.fk, g.gx.calm, g.gx.rm, g.gx.cold, g.gx.hand, g.gx.hX, g.gx.hK, fun _ _ ⟨_, _, _, _, _, _, _, _, _, _, _, _, _, _, _, _, w⟩ => w.elim, ⟨g.gx.tab.fn, g.gx.tab.fx, g.gx.tab.bi, g.gx.tab.ar, g.gx.tab.con, g.gx.tab.cl⟩, g.gx.cel⟩, PassesOwn.never, g.st⟩
theorem sts_try {body : List Stmt} {h0 : ExceptHandler} {hs : List ExceptHandler} {mb : List Mi.S} {pos : Pos} (hb : PSs X.nox body (tSs S.nox mb)) : PS X (.Try body (h0 :: hs) [] [] pos) (tS S (.tryT mb)) :=
  ps_weak (ps_try_thru0 hb) fun Dn σ H ⟨ρ, G, gs, sl, w, x, r⟩ => by
  unfold exS at r
  refine ⟨ρ, G, gs, sl.ofNox, w, x, ?_⟩
  show SRes S.nox G (exL S.c mb ρ gs) Dn
  revert r
  cases exL S.c mb ρ gs with
  | nx ρ g => exact fun r σ G H sl w x s => r σ G H sl.unNox w x s
  | rt d g => exact fun r => r
  | bk ρ g => exact fun r σ G H sl w x s => r σ G H sl.unNox w x s
  | ct ρ g => exact fun r σ G H sl w x s => r σ G H sl.unNox w x s
  | ex e ρ g => exact fun r => r.elim
  | no => exact fun r => r
end
section
variable {X : Cx} {c : TC} {S : Sx} {k : Nat}
theorem sts_raise (g : GS X c S k) (hc : c.hot = false) {x : Str} {j : Nat} {e : Expr} {es : List Expr} {ms : List E} {p pos pos2 : Pos} (hx : c.cls x = some j) (hl : (e :: es).length = (exFs j).length) (hs : (e :: es).all notStar = true) (ha : PA X (e :: es) (tL S ms)) :
    PS X (.Raise (some (.Call (.Name x p) (e :: es) [] pos)) none pos2) (tS S (.raise j ms)) := by
  obtain ⟨h1, h2, h3⟩ := TC.cls_nm hx
  have n100 : j ≠ 100 := fun z => by subst z; exact absurd hl (by simp [exFs, exCls])
  have n101 : j ≠ 101 := fun z => by subst z; exact absurd hl (by simp [exFs, exCls])
  have hj : j ∈ c.xs := by
    rcases List.mem_cons.mp h3 with z | z
    · exact absurd z n100
    · rcases List.mem_cons.mp z with z | z
      · exact absurd z n101
      · exact z
  have hnm : exNm j = x := by
    unfold clsNm at h2
    rw [if_neg n100, if_neg n101] at h2
    exact h2
  obtain ⟨C, e3, T, _, _, _⟩ := (g.gx.tab.cl.at_ j hj).at_
  rw [hnm] at T
  obtain ⟨_, _, _, hdb⟩ := g.gx.tab.cl.val j h3
  rw [h2] at hdb
  have hs' : notStar e = true ∧ es.all notStar = true := by rw [List.all_cons, Bool.and_eq_true] at hs; exact hs
  refine ps_weak (L2N.ps_raise (g.gx.calm hc) g.gx.tk (L2N.pmk_x T (g.gx.cold hc).1 ha (g.gx.gl h1) hdb (star_cons hs'.1 es X.env) (star_any hs'.2))) fun Dn σ H ⟨ρ, G, gs, sl, w, x, r⟩ => ?_
  unfold exS at r
  refine ⟨ρ, G, gs, sl, w, SRes.step sl x r fun ds g' G' H' x1 w1 sl1 x2 q vs rv => ?_⟩
  split at q
  · rename_i hd
    refine ⟨by rw [rv.length]; exact hd, fun d hp => ?_⟩
    obtain ⟨x3, w3⟩ := Ext.alloc (o := .xd ((exFs j).zip vs)) w1 hp
    exact q σ _ _ _ _ (sl1.ext x3) w3 (x2.trans x3) x3.gg ⟨C, d, vs, rfl, by rw [g.gx.hX]; exact hj, by rw [← g.gx.hK]; exact e3, rfl, upd_same, by rw [rv.length]; exact hd, rv.mono x3.gg⟩
  · exact q.elim
theorem lendE_fr {c : TC} {m : E} (h : isFr (c.lendE m) = true) : c.lendE m = m := by
  cases m <;> first | rfl | (unfold TC.lendE at h; simp only at h; split at h <;> simp [isFr] at h)
theorem TC.tgl_nm {y : Str} {i : Nat} (h : c.tgl y = some i) : c.nm.lookup y = some .local ∧ c.N[i]? = some y := by
  unfold TC.tgl at h
  split at h
  · rename_i e
    refine ⟨e, ?_⟩
    obtain ⟨hi, e, _⟩ := List.findIdx?_eq_some_iff_getElem.mp h
    rw [List.getElem?_eq_getElem hi]
    have : c.N[i] = y := by simpa using e
    rw [this]
  · cases h
def tsH (S : Sx) (mh : List Mi.S) : Addr → Value → Option Addr → TS := fun a cls d D σ H => ∃ (j : Nat) (dd C : Addr), cls = .ref C ∧ d = some dd ∧ j ∈ S.xs ∧ clsA S.K j = some C ∧ tSs (hotS S a j dd) mh D σ H
theorem SRes.wish {W : WX} {G : Hp} {r : SR} {Dn : Ends} {j : Nat} {f : Exn → Env → Gs → SR} (h : SRes S G (r.caught j f) Dn)
    (k : ∀ e ρ g, SRes S G (if isSub e.cls j = true then f e ρ g else .ex e ρ g) Dn → ∀ σ G' H cls d, Slots S ρ σ G' H → World S.a g G' H → Ext S.a S.G0 S.H0 G' H → Same G G' → ExAt S G' e cls d → W cls d σ H) : SRes { S with W := W } G r Dn := by
  cases r with
  | nx ρ g => exact fun σ G H sl w x s => h σ G H sl.unwishW w x s
  | rt d g => exact h
  | bk ρ g => exact fun σ G H sl w x s => h σ G H sl.unwishW w x s
  | ct ρ g => exact fun σ G H sl w x s => h σ G H sl.unwishW w x s
  | ex e ρ g => exact fun σ G' H cls d sl w x s q => k e ρ g h σ G' H cls d sl.unwishW w x s q
  | no => exact h
theorem SRes.hot {G : Hp} {r : SR} {Dn : Ends} {a : Addr} {j : Nat} {dd : Addr} {i : Nat} (h : SRes S G (r.out i) Dn) :
    SRes (hotS S a j dd) G r { nx := fun σ H => Dn.nx (σ.set i none) H, rt := Dn.rt, bk := fun σ H => Dn.bk (σ.set i none) H, ct := fun σ H => Dn.ct (σ.set i none) H } := by
  have one : ∀ {ρ : Env} {f : Env → SR} {P : Prop}, SRes S G (match Mi.gone ρ i with | some ρ => f ρ | none => .no) Dn → (∀ ρ2, Mi.gone ρ i = some ρ2 → SRes S G (f ρ2) Dn → P) → P := fun {ρ f P} h k => by
    cases e : Mi.gone ρ i with
    | none => rw [e] at h; exact h.elim
    | some ρ2 => rw [e] at h; exact k ρ2 e h
  cases r with
  | nx ρ g =>
    unfold SR.out at h
    exact one (f := fun ρ => .nx ρ g) h fun ρ2 e h σ G' H sl w x s => h _ G' H (sl.gone e) w.toCold x.toCold s
  | rt d g =>
    unfold SR.out at h
    simp only at h
    split at h
    · rename_i n
      exact fun v G' H w x r => h v G' H w.toCold x.toCold (r.toCold n)
    · exact h.elim
  | bk ρ g =>
    unfold SR.out at h
    exact one (f := fun ρ => .bk ρ g) h fun ρ2 e h σ G' H sl w x s => h _ G' H (sl.gone e) w.toCold x.toCold s
  | ct ρ g =>
    unfold SR.out at h
    exact one (f := fun ρ => .ct ρ g) h fun ρ2 e h σ G' H sl w x s => h _ G' H (sl.gone e) w.toCold x.toCold s
  | ex e ρ g => exact h.elim
  | no => exact h.elim
theorem sts_tryX (g : GS X c S k) (hc : c.hot = false) {x y : Str} {j i : Nat} {body r : List Stmt} {b : Stmt} {mb mh : List Mi.S} {p p' pos : Pos} (hx : c.cls x = some j) (hy : c.tgl y = some i)
    (hb : ∀ {X' : Cx} {S' : Sx}, GS X' c S' k → PSs X' body (tSs S' mb)) (hh : ∀ {X' : Cx} {S' : Sx}, GS X' { c with hot := true } S' k → PSs X' (b :: r) (tSs S' mh)) :
    PS X (.Try body [.ExceptHandler (some (.Name x p)) (some y) (b :: r) p'] [] [] pos) (tS S (.tryX mb j i mh)) := by
  obtain ⟨h1, h2, h3⟩ := TC.cls_nm hx
  obtain ⟨y1, y2⟩ := TC.tgl_nm hy
  obtain ⟨cv, q1, q2, q3⟩ := g.gx.tab.cl.val j h3
  rw [h2] at q2 q3
  have nms : Names X x cv := ⟨g.gx.gl h1, q3, by
    rcases q2 with ⟨C, rfl, q2⟩ | ⟨rfl, q2, rfl⟩
    · exact .inl q2
    · refine .inr ⟨?_, ?_, ?_⟩
      · rw [← h2]; exact q2
      · rw [← h2]; decide +kernel
      · rw [← h2]; decide +kernel⟩
  refine ps_weak (L2N.ps_try_as (c := cv) (i := i) (n := y) (tb := fun W => tSs { S with W := W } mb) (ts := tsH S mh) g.st.1 g.st.2 (by rw [g.gx.N]; exact g.gx.nd) (by rw [g.gx.N]; exact y2) (by show X.env.scope.names.lookup y = _; rw [g.gx.nm]; exact y1) nms g.gx.tk (fun W pn xe tk po => ?_) (fun a oe cls d pn hz hf => ?_)) fun Dn σ H ⟨ρ, G, gs, sl, w, x, rr⟩ => ?_
  · exact hb ⟨⟨g.gx.N, g.gx.nd, g.gx.nm, g.gx.fk, g.gx.calm, g.gx.rm, g.gx.cold, (fun z => absurd (hc.symm.trans z) Bool.false_ne_true), g.gx.hX, g.gx.hK, tk, ⟨g.gx.tab.fn, g.gx.tab.fx, g.gx.tab.bi, g.gx.tab.ar, g.gx.tab.con, g.gx.tab.cl⟩, g.gx.cel⟩, po, g.st⟩
  · refine ⟨fun pins s σ H D I ⟨j', dd, C, e1, e2, m, e3, q⟩ => ?_⟩
    subst e1 e2
    have gs : GS (X.suite a ((a, oe) :: pn)) { c with hot := true } (hotS S a j' dd) k := by
      obtain ⟨vs, hd⟩ := hf
      refine ⟨⟨g.gx.N, g.gx.nd, g.gx.nm, g.gx.fk, (fun z => Bool.noConfusion z), ⟨g.gx.rm.dp, g.gx.rm.un⟩, (fun z => Bool.noConfusion z), fun _ => ⟨(a, oe), j', dd, rfl, ⟨m, ⟨C, e3, hz⟩, ⟨vs, hd⟩⟩, ⟨rfl, vs, hd, hz.2.2 vs hd⟩, List.mem_cons_self⟩, g.gx.hX, g.gx.hK,
        fun _ _ ⟨_, _, _, _, _, _, _, _, _, _, _, _, _, _, _, _, w⟩ => w.elim, ⟨g.gx.tab.fn, g.gx.tab.fx, g.gx.tab.bi, g.gx.tab.ar, g.gx.tab.con, g.gx.tab.cl⟩, g.gx.cel⟩, PassesOwn.never, g.st⟩
    exact (hh gs).run pins s σ H D I q
  · unfold exS at rr
    refine ⟨ρ, G, gs, sl.wishW, w, x, SRes.wish rr fun e ρ2 g2 h σ2 G2 H2 cls d sl2 w2 x2 s2 ea => ?_⟩
    obtain ⟨C, dd, vs, rfl, m, e3, rfl, gd, lv, rs⟩ := ea
    have mm : e.cls ∈ c.xs := by rw [← g.gx.hX]; exact m
    have rel := (g.gx.tab.cl.rel e.cls mm j h3 C cv (by rw [g.gx.hK]; exact e3) q1).2
    refine ⟨isSub e.cls j, rel, fun hyes a na => ?_, fun hno => ?_⟩
    · rw [if_pos hyes] at h
      have er := (g.gx.cold hc).2
      refine ⟨e.cls, dd, C, rfl, rfl, m, e3, ρ2.set i (some (.val (.exn e.cls e.fs))), G2, g2, ?_, w2.toHot, x2.toHot, SRes.hot (SRes.shift s2 h)⟩
      refine (sl2.toHot er).setV ?_
      show Rep S.K (S.a.hot (some (a, e.cls, dd))) G2 (.exn e.cls e.fs) (.ref a)
      unfold Rep
      exact ⟨a, dd, vs, rfl, rfl, gd, lv, rs.toHot er⟩
    · rw [if_neg (by rw [hno]; exact Bool.false_ne_true)] at h
      exact h σ2 G2 H2 _ _ sl2 w2 x2 s2 ⟨C, dd, vs, rfl, m, e3, rfl, gd, lv, rs⟩
end
/-! ### the translation of statements is sound -/
structure SndS (n : Nat) : Prop where
  s : ∀ {X : Cx} {c : TC} {S : Sx} {k : Nat} {st : Stmt} {m : Mi.S}, GS X c S k → trS c n st = some m → PS X st (tS S m)
  l : ∀ {X : Cx} {c : TC} {S : Sx} {k : Nat} {st : List Stmt} {ms : List Mi.S}, GS X c S k → trSs c n st = some ms → PSs X st (tSs S ms)
theorem ne_cons {l : List Expr} (h : l.isEmpty = false) : ∃ e es, l = e :: es := by
  cases l with
  | nil => cases h
  | cons e es => exact ⟨e, es, rfl⟩
theorem sts_zero : SndS 0 := by
  refine ⟨fun _ h => ?_, fun _ h => ?_⟩
  · unfold trS at h; cases h
  · unfold trSs at h; cases h
theorem sts_succ {n : Nat} (ih : SndS n) : SndS (n + 1) := by
  refine ⟨fun {X c S k st m} g h => ?_, fun {X c S k st ms} g h => ?_⟩
  · have E1 : ∀ {e : Expr} {m : E}, trE c false n e = some m → PE X e (tE S m) ∧ (isFr m = true → PE X e (tF S m)) ∧ notStar e = true := fun h => by
      have q := (snd_all n).e g.gx h
      exact ⟨(q.2.2.1 rfl).1, (q.2.2.1 rfl).2.2, q.1⟩
    have T1 : ∀ {e : Expr} {m : E}, trE c true n e = some m → PT X e (tT S m) := fun h => ((snd_all n).e g.gx h).2.2.2 rfl
    unfold trS at h
    simp only at h
    split at h
    · split at h
      · rename_i hx he
        cases h
        split
        · rename_i hc
          exact sts_wrap (sts_asgC g hx hc he)
        · rename_i hc
          refine sts_wrap (sts_asg g hx (by simpa using hc) ?_ fun hf => ?_)
          · unfold TC.lendE
            split
            · split
              · exact (E1 he).1
              · exact snd_lend (E1 he).1
            · exact (E1 he).1
          · have e := lendE_fr hf
            rw [e] at hf ⊢
            exact (E1 he).2.1 hf
      · cases h
    · split at h
      · cases h
      · rename_i ht
        split at h
        · rename_i h1 he
          cases h
          exact sts_wrap (sts_asgT g (by
            cases q : isTup _ with
            | false => rfl
            | true => exact absurd (.inl q) ht) (by
            cases q : c.hot with
            | false => rfl
            | true => exact absurd (.inr q) ht) h1 (E1 he).1)
        · cases h
    · split at h
      · cases h
      · rename_i hc
        split at h
        · rename_i hx hk he
          cases h
          exact sts_wrap (sts_setix g hx (by simpa using hc) (fun lo hi st p e => by subst e; rw [slice_none] at hk; cases hk) (E1 hk).1 (E1 he).1)
        · cases h
    · split at h
      · cases h
      · rename_i hc
        split at h
        · rename_i ha hk he
          cases h
          exact sts_wrap (sts_setg g (by simpa using hc) (fun lo hi st p e => by subst e; rw [slice_none] at hk; cases hk) (E1 ha).1 (E1 hk).1 (E1 he).1)
        · cases h
    · split at h
      · rename_i hc
        obtain ⟨rfl, hl⟩ := hc
        split at h
        · rename_i ha he
          cases h
          exact sts_wrap (sts_appg (fun _ => rfl) hl (E1 he).2.2 (E1 ha).1 (E1 he).1)
        · cases h
      · split at h
        · split at h
          · rename_i he
            cases h
            exact sts_wrap (sts_expr rfl (E1 he).1)
          · cases h
        · cases h
    · split at h
      · rename_i hx ho he
        cases h
        exact sts_wrap (sts_aug g hx ho (E1 he).1)
      · cases h
    · split at h
      · rename_i hc
        split at h
        · rename_i hx he
          cases h
          obtain ⟨h1, h2⟩ := hc
          subst h1
          exact sts_wrap (sts_app g hx h2 (E1 he).2.2 (E1 he).1)
        · cases h
      · cases h
    · split at h
      · rename_i he
        cases h
        exact sts_wrap (sts_expr rfl (E1 he).1)
      · cases h
    · split at h
      · rename_i ht ha hb
        cases h
        exact sts_wrap (sts_if (T1 ht) (ih.l g ha) (ih.l g hb))
      · cases h
    · split at h
      · cases h
      · rename_i hc
        split at h
        · rename_i ht hi hb
          cases h
          obtain ⟨i1, _, i3⟩ := (snd_all n).i g.gx hi
          exact sts_wrap (sts_for g ht (by simpa using hc) i1 i3 (ih.l g hb))
        · cases h
    · split at h
      · rename_i ht hb
        cases h
        exact sts_while g (T1 ht) (ih.l g hb)
      · cases h
    · split at h
      · rename_i he
        cases h
        exact sts_wrap (sts_ret (E1 he).1)
      · cases h
    · cases h; exact sts_retN
    · cases h; exact sts_brk
    · cases h; exact sts_cnt
    · cases h; exact sts_pass
    · have never : ∀ {e : Option Expr} {pos : Pos}, PS X (.Raise e none pos) (tS S .stuck) := ps_weak ps_never fun _ _ _ ⟨_, _, _, _, _, _, r⟩ => r.elim
      split at h
      · cases h; exact never
      · rename_i hc
        split at h
        · rename_i hx hes
          split at h
          · rename_i hl
            cases h
            obtain ⟨l1, l2, _⟩ := (snd_all n).l g.gx hes
            obtain ⟨e, es, rfl⟩ := ne_cons hl.1
            exact sts_wrap (sts_raise g (by simpa using hc) hx hl.2 l1 l2)
          · cases h; exact never
        · cases h; exact never
    · cases h; exact ps_weak ps_never fun _ _ _ ⟨_, _, _, _, _, _, r⟩ => r.elim
    · split at h
      · cases h
      · rename_i hc
        split at h
        · rename_i hx hy hb hh
          cases h
          exact sts_tryX g (by simpa using hc) hx hy (fun g' => ih.l g' hb) (fun g' => ih.l g' hh)
        · rename_i hb _
          cases h
          exact sts_try (ih.l (gs_nox g) hb)
        · cases h
    · obtain ⟨mb, hb, rfl⟩ := Option.map_eq_some_iff.mp h
      exact sts_try (ih.l (gs_nox g) hb)
    · cases h
  · unfold trSs at h
    split at h
    · rename_i e1; cases e1
    · cases h
      exact stss_nil
    · split at h
      · rename_i n' e' es' e1 o1 o2 m' ms' he hl
        cases e1
        cases h
        exact stss_cons (ih.s g he) (ih.l g hl)
      · cases h
theorem sts_all : ∀ n, SndS n
  | 0 => sts_zero
  | n + 1 => sts_succ (sts_all n)
end Mi


set_option Elab.async false
set_option maxRecDepth 100000
set_option maxHeartbeats 4000000
/-! Mi15: defs: by the evaluator, at every depth. -/
namespace Mi
open PySem L2
theorem envOf_get {ds : List D} {n i : Nat} {q : Cell} (h : (envOf ds n).get i = some q) : ∃ d, ds[i]? = some d ∧ q = .val d := by
  unfold Env.get envOf at h
  by_cases hi : i < ds.length
  · rw [List.getElem?_append_left (by simpa using hi), List.getElem?_map, List.getElem?_eq_getElem hi] at h
    cases h
    exact ⟨_, List.getElem?_eq_getElem hi, rfl⟩
  · rw [List.getElem?_append_right (by simpa using hi), List.getElem?_replicate] at h
    split at h
    · rename_i e
      split at e <;> cases e
    · cases h
theorem slots_start {S : Sx} {G H : Hp} {N : List Str} {ds : List D} {vs : List V} (r : Reps S.K S.a G ds vs) (hl : ds.length ≤ N.length) : Slots S (envOf ds N.length) (L2.start N vs) G H := by
  have l1 := r.length
  refine ⟨?_, fun i d e => ?_, fun i ds' e => ?_, fun i j ds' es ne e1 e2 => ?_⟩
  · unfold envOf L2.start
    simp only [List.length_append, List.length_map, List.length_replicate]
    omega
  · obtain ⟨d', e1, e2⟩ := envOf_get e
    cases e2
    obtain ⟨v, e3, rv⟩ := r.get e1
    refine ⟨v, ?_, rv⟩
    unfold L2.start
    have hi : i < vs.length := (List.getElem?_eq_some_iff.mp e3).1
    rw [List.getElem?_append_left (by simpa using hi), List.getElem?_map, e3]
    rfl
  · obtain ⟨d', _, e2⟩ := envOf_get e
    cases e2
  · obtain ⟨d', _, e3⟩ := envOf_get e1
    cases e3
theorem okN {P : Program} {w : PySem.World} {K : PySem.W.Frag} {mg : Str → Option Value} {base : Heap} {x qual : Str} {st : Stmt} {f : Addr} {fd : FuncData} {N ps : List Str} {k : Nat} {sp : Sp} (F : Fun K x qual st f fd) (S : FnScope N ps (defScope st)) (len : ∀ vs H Q E, sp vs H Q E → vs.length = ps.length)
    (hb : ∀ (cdv : Value) (A : Around) (outer : List PySem.Env) (s : Shared) (H : Hp) (vs : List V) (Q : VK) (E : XK), Room k (A.deeper (PyProof.Rows.envOfC qual (defScope st) s.heap.objs.size f cdv)) → sp vs H Q E →
      ∃ t, PSs (cxOf (L2N.CX P w) P w K mg base N qual (defScope st) f cdv A outer s H E) (defBody st) t ∧ t { nx := fun _ H' => Q .non H', rt := Q } (L2.start N vs) H) : FnOk P w K mg base (L2N.CX P w) (k + 1) f fd ps sp := by
  obtain ⟨_, _, _, _, _, _, cdv, _, _, rfl, lk, hcd⟩ := F.ex
  exact fn_of lk hcd S len fun A outer s H vs Q E hr hsp => hb cdv A outer s H vs Q E hr hsp
theorem okX {P : Program} {w : PySem.World} {K : PySem.W.Frag} {mg : Str → Option Value} {base : Heap} {x qual : Str} {st : Stmt} {f : Addr} {fd : FuncData} {N ps : List Str} {k : Nat} {sp : Sp} {p : Addr × Obj} (F : Fun K x qual st f fd) (S : FnScope N ps (defScope st)) (len : ∀ vs H Q E, sp vs H Q E → vs.length = ps.length)
    (hb : ∀ (cdv : Value) (A : Around) (outer : List PySem.Env) (s : Shared) (H : Hp) (vs : List V) (Q : VK) (E : XK), L2H.Hot1 A p → L2H.RoomH k (A.deeper (PyProof.Rows.envOfC qual (defScope st) s.heap.objs.size f cdv)) → sp vs H Q E →
      ∃ t, PSs (L2H.cxH (L2N.CX P w) P w K mg base N qual (defScope st) f cdv A outer s H E p) (defBody st) t ∧ t { nx := fun _ H' => Q .non H', rt := Q } (L2.start N vs) H) : L2N.FnX P w K mg base (L2N.CX P w) p (k + 1) f fd ps sp := by
  obtain ⟨_, _, _, _, _, _, cdv, _, _, rfl, lk, hcd⟩ := F.ex
  exact L2N.fn_ofX lk hcd S len fun A outer s H vs Q E hot hr hsp => hb cdv A outer s H vs Q E hot hr hsp
/-- what a law's table is read by: numbers, classes of errors, the defs that except clauses call -/
structure Tp where
  fns : List (Str × Nat)
  con : List (Str × Int)
  hots : List Nat
  xs : List Nat
/-- one def of the table as it stands in the program -/
structure DefAt (K : PySem.W.Frag) (mg : Str → Option Value) (tp : Tp) (hot : Bool) (x : Str) (np n : Nat) (body : List Mi.S) : Prop where
  at_ : ∃ (st : Stmt) (f : Addr) (fd : FuncData) (N ps : List Str) (fr ln : List Nat) (cel : List Str) (fuel : Nat), mg x = some (.ref f) ∧ Fun K x x st f fd ∧ Binds K fd ps [] ∧ ps.length = np ∧ N.length = n ∧ np ≤ n ∧ FnScope N ps (defScope st) ∧
    trSs ⟨N, (defScope st).names, cel, tp.fns, tp.con, fr, ln, hot, tp.hots, tp.xs⟩ fuel (defBody st) = some body
structure PrmAt (P : Program) (w : PySem.World) (K : PySem.W.Frag) (mg : Str → Option Value) (base : Heap) (L : Nat) (xs : List Nat) (x : Str) (np : Nat) (h : List D → Gs → R D) : Prop where
  at_ : ∃ (f : Addr) (fd : FuncData) (ps : List Str), mg x = some (.ref f) ∧ PySem.W.keepIn K (.ref f) = true ∧ Binds K fd ps [] ∧ ps.length = np ∧ FnOk P w K mg base (L2N.CX P w) L f fd ps (spF K xs np h)
/-- the whole table -/
structure TabAt (P : Program) (w : PySem.World) (K : PySem.W.Frag) (mg : Str → Option Value) (base : Heap) (T : List Fn) (tp : Tp) (L : Nat) : Prop where
  len : ∀ (i : Nat) (x : Str) (n : Nat), tp.fns[i]? = some (x, n) → (∃ fn : Fn, T[i]? = some fn ∧ fn.ps = n) ∧ (x == ("__debug__" : Str)) = false
  dfn : ∀ (i : Nat) (x : Str) (n np sl : Nat) (body : List Mi.S), tp.fns[i]? = some (x, n) → T[i]? = some (Fn.dfn np sl body) → DefAt K mg tp (tp.hots.contains i) x np sl body
  prm : ∀ (i : Nat) (x : Str) (n np : Nat) (h : List D → Gs → R D), tp.fns[i]? = some (x, n) → T[i]? = some (Fn.prm np h) → tp.hots.contains i = false ∧ PrmAt P w K mg base L tp.xs x np h
  bi : ∀ x ∈ blts, mg x = none
  con : ∀ x n, tp.con.lookup x = some n → ∃ t, mg x = some (.int n t)
  cl : ClsAll P K mg tp.xs
theorem call_ar {T : List Fn} {k i n : Nat} {fn : Fn} (h : T[i]? = some fn) (hn : fn.ps = n) {ds : List D} {g : Gs} (hl : ds.length ≠ n) : call T k i ds g = .no := by
  cases k with
  | zero => rfl
  | succ k =>
    unfold call
    rw [h]
    subst hn
    cases fn with
    | dfn ps m body => exact if_neg hl
    | prm ps f => exact if_neg hl
theorem spF_len {K : PySem.W.Frag} {xs : List Nat} {n : Nat} {h : List D → Gs → R D} {vs : List V} {H : Hp} {Q : VK} {Ex : XK} (q : spF K xs n h vs H Q Ex) : vs.length = n := q.1
theorem spX_len {K : PySem.W.Frag} {xs : List Nat} {p : Addr × Obj} {n : Nat} {h : List D → Gs → R D} {vs : List V} {H : Hp} {Q : VK} {Ex : XK} (q : spX K xs p n h vs H Q Ex) : vs.length = n := q.1
theorem fin_out {S : Sx} {H G : Hp} {r : SR} {Q : VK} {Ex : XK} (hW : S.W = fun cls d _ H' => Ex cls d H') (h0 : S.H0 = H) (g0 : S.G0 = G) (h : Out S.K S.xs S.a H G (fin r) Q Ex) : SRes S G r { nx := fun _ H' => Q .non H', rt := Q } := by
  revert h
  show Res _ _ _ _ (fin r) _ → SRes S G r _
  subst h0 g0
  cases r with
  | nx ρ g' => exact fun out σ G' H' _ w' x' _ => out G' H' x' w' _ (by unfold Rep; rfl)
  | rt d g' => exact fun out v G' H' w' x' r => out G' H' x' w' v r
  | ex e ρ g' => exact fun out σ G' H' cls d _ w' x' _ q => (by rw [hW]; exact out G' H' cls d x' w' q)
  | bk ρ g' => exact fun out => out.elim
  | ct ρ g' => exact fun out => out.elim
  | no => exact fun out => out.elim
theorem tab_all {P : Program} {w : PySem.World} {K : PySem.W.Frag} {mg : Str → Option Value} {base : Heap} {T : List Fn} {tp : Tp} {L : Nat} (A : TabAt P w K mg base T tp L) :
    ∀ (k : Nat) (c : TC), c.fns = tp.fns → c.con = tp.con → c.hots = tp.hots → c.xs = tp.xs → Tab P w K mg base c (call T k) (k + L)
  | 0, c, h1, h2, h3, h4 => by
    refine ⟨fun i x n hi hh => ?_, fun p i x n hi hh => ?_, A.bi, fun i x n ds g hi hl => rfl, (by rw [h2]; exact A.con), (by rw [h4]; exact A.cl)⟩
    · rw [h1] at hi
      rw [h3] at hh
      obtain ⟨⟨fn, e1, e2⟩, e3⟩ := A.len i x n hi
      cases fn with
      | dfn np sl body =>
        obtain ⟨st, f, fd, N, ps, fr, ln, cel, fuel, q1, q2, q3, q4, q5, q6, q7, q8⟩ := (A.dfn i x n np sl body hi e1).at_
        cases e2
        exact ⟨f, fd, ps, q1, q2.kp, q3, q4, e3, ⟨fun vs H Q E h => (spF_len h).trans q4.symm, fun _ _ _ _ _ _ _ _ _ _ _ _ _ h => by
          obtain ⟨_, _, _, _, _, _, _, _, z⟩ := h
          exact z.elim⟩⟩
      | prm np h =>
        obtain ⟨f, fd, ps, q1, q2, q3, q4, q5⟩ := (A.prm i x n np h hi e1).2.at_
        cases e2
        exact ⟨f, fd, ps, q1, q2, q3, q4, e3, ⟨fun vs H Q E h => (spF_len h).trans q4.symm, fun _ _ _ _ _ _ _ _ _ _ _ _ _ h => by
          obtain ⟨_, _, _, _, _, _, _, _, z⟩ := h
          exact z.elim⟩⟩
    · rw [h1] at hi
      rw [h3] at hh
      obtain ⟨⟨fn, e1, e2⟩, e3⟩ := A.len i x n hi
      cases fn with
      | dfn np sl body =>
        obtain ⟨st, f, fd, N, ps, fr, ln, cel, fuel, q1, q2, q3, q4, q5, q6, q7, q8⟩ := (A.dfn i x n np sl body hi e1).at_
        cases e2
        exact ⟨f, fd, ps, q1, q2.kp, q3, q4, e3, ⟨fun vs H Q E h => (spX_len h).trans q4.symm, fun _ _ _ _ _ _ _ _ _ _ _ _ _ _ _ h => by
          obtain ⟨_, _, _, _, _, _, _, _, _, _, _, z⟩ := h
          exact z.elim⟩⟩
      | prm np h => exact absurd ((A.prm i x n np h hi e1).1.symm.trans hh) Bool.false_ne_true
  | k + 1, c, h1, h2, h3, h4 => by
    have ih := tab_all A k
    refine ⟨fun i x n hi hh => ?_, fun p i x n hi hh => ?_, A.bi, fun i x n ds g hi hl => ?_, (by rw [h2]; exact A.con), (by rw [h4]; exact A.cl)⟩
    · rw [h1] at hi
      rw [h3] at hh
      rw [h4]
      obtain ⟨⟨fn, e1, e2⟩, e3⟩ := A.len i x n hi
      cases fn with
      | dfn np sl body =>
        obtain ⟨st, f, fd, N, ps, fr, ln, cel, fuel, q1, q2, q3, q4, q5, q6, q7, q8⟩ := (A.dfn i x n np sl body hi e1).at_
        rw [hh] at q8
        cases e2
        refine ⟨f, fd, ps, q1, q2.kp, q3, q4, e3, ?_⟩
        have e : k + 1 + L = k + L + 1 := by omega
        rw [e]
        refine okN q2 q7 (fun vs H Q E h => (spF_len h).trans q4.symm) fun cdv Ar outer s H vs Q E hr h => ?_
        obtain ⟨hl, a, G, g, ds, er, wd, rs, out⟩ := h
        have hds : ds.length = np := by rw [← rs.length]; exact hl
        unfold call at out
        rw [e1] at out
        simp only at out
        rw [if_pos hds] at out
        let Sx0 : Sx := ⟨K, a, call T k, fun cls d _ H' => E cls d H', H, G, tp.xs⟩
        have gs : GS (cxOf (L2N.CX P w) P w K mg base N x (defScope st) f cdv Ar outer s H E) ⟨N, (defScope st).names, cel, tp.fns, tp.con, fr, ln, false, tp.hots, tp.xs⟩ Sx0 (k + L) := by
          refine ⟨⟨rfl, q7.nd, rfl, q7.kind, fun _ => rfl, ⟨hr.dp, hr.un⟩, fun _ => ⟨hr, er⟩, (fun z => Bool.noConfusion z), rfl, rfl, L2N.takes_of rfl rfl rfl rfl, ?_, fun _ _ => rfl⟩, passes_of rfl, ⟨rfl, rfl⟩⟩
          exact ih ⟨N, (defScope st).names, cel, tp.fns, tp.con, fr, ln, false, tp.hots, tp.xs⟩ rfl rfl rfl rfl
        refine ⟨tSs Sx0 body, (sts_all fuel).l gs q8, envOf ds sl, G, g, ?_, wd, Ext.refl, ?_⟩
        · rw [← q5]
          exact slots_start rs (by omega)
        · exact fin_out (S := Sx0) rfl rfl rfl out
      | prm np h =>
        obtain ⟨f, fd, ps, q1, q2, q3, q4, q5⟩ := (A.prm i x n np h hi e1).2.at_
        cases e2
        refine ⟨f, fd, ps, q1, q2, q3, q4, e3, (q5.mono (by omega)).imp fun vs H Q E hh => ?_⟩
        obtain ⟨hl, a, G, g, ds, er, wd, rs, out⟩ := hh
        have hds : ds.length = np := by rw [← rs.length]; exact hl
        unfold call at out
        rw [e1] at out
        simp only at out
        rw [if_pos hds] at out
        exact ⟨hl, a, G, g, ds, er, wd, rs, out⟩
    · rw [h1] at hi
      rw [h3] at hh
      rw [h4]
      obtain ⟨⟨fn, e1, e2⟩, e3⟩ := A.len i x n hi
      cases fn with
      | dfn np sl body =>
        obtain ⟨st, f, fd, N, ps, fr, ln, cel, fuel, q1, q2, q3, q4, q5, q6, q7, q8⟩ := (A.dfn i x n np sl body hi e1).at_
        rw [hh] at q8
        cases e2
        refine ⟨f, fd, ps, q1, q2.kp, q3, q4, e3, ?_⟩
        have e : k + 1 + L = k + L + 1 := by omega
        rw [e]
        refine okX q2 q7 (fun vs H Q E h => (spX_len h).trans q4.symm) fun cdv Ar outer s H vs Q E hot hr h => ?_
        obtain ⟨hl, a, G, g, ds, j, dd, er, ea, wd, rs, out⟩ := h
        have hds : ds.length = np := by rw [← rs.length]; exact hl
        unfold call at out
        rw [e1] at out
        simp only at out
        rw [if_pos hds] at out
        let Sx0 : Sx := ⟨K, a, call T k, fun cls d _ H' => E cls d H', H, G, tp.xs⟩
        have gs : GS (L2H.cxH (L2N.CX P w) P w K mg base N x (defScope st) f cdv Ar outer s H E p) ⟨N, (defScope st).names, cel, tp.fns, tp.con, fr, ln, true, tp.hots, tp.xs⟩ Sx0 (k + L) := by
          refine ⟨⟨rfl, q7.nd, rfl, q7.kind, (fun z => Bool.noConfusion z), hr, (fun z => Bool.noConfusion z), fun _ => ⟨p, j, dd, er, ea, hot, List.mem_cons_self⟩, rfl, rfl, L2N.takes_of rfl rfl rfl rfl, ?_, fun _ _ => rfl⟩, passes_of rfl, ⟨rfl, rfl⟩⟩
          exact ih ⟨N, (defScope st).names, cel, tp.fns, tp.con, fr, ln, true, tp.hots, tp.xs⟩ rfl rfl rfl rfl
        refine ⟨tSs Sx0 body, (sts_all fuel).l gs q8, envOf ds sl, G, g, ?_, wd, Ext.refl, ?_⟩
        · rw [← q5]
          exact slots_start rs (by omega)
        · exact fin_out (S := Sx0) rfl rfl rfl out
      | prm np h => exact absurd ((A.prm i x n np h hi e1).1.symm.trans hh) Bool.false_ne_true
    · rw [h1] at hi
      obtain ⟨⟨fn, e1, e2⟩, _⟩ := A.len i x n hi
      exact call_ar e1 e2 hl
end Mi


set_option Elab.async false
set_option maxRecDepth 100000
set_option maxHeartbeats 4000000
/-! Mi16: the law: its draws' list is made, then the rest by the evaluator. -/
namespace Mi
open PySem L2
/-- nothing known yet -/
def noG : Hp := fun _ => none
def offF : Fs := ⟨0, [], false, none⟩
def offS : Gs := ⟨[], []⟩
theorem off_world {H : Hp} : World offF offS noG H :=
  ⟨(fun b o e => by cases e), (fun q => by cases q), fun _ => ⟨rfl, rfl⟩, (fun k p xs e => by cases e), rfl, fun b q => rfl, List.not_mem_nil, List.nodup_nil⟩
/-- what a list holds as the draws' list: numbers, and lists of numbers -/
def rowOf : Nat → List D → Option (List Gc × List (List Int))
  | _, [] => some ([], [])
  | n, .int i :: r => match rowOf n r with
    | some (a, b) => some (.num i :: a, b)
    | none => none
  | n, .lst xs :: r => match intsD xs, rowOf (n + 1) r with
    | some l, some (a, b) => some (.at_ n :: a, l :: b)
    | _, _ => none
  | _, _ => none
theorem row_at {K : PySem.W.Frag} {z : Fs} {G : Hp} (s : Addr) : ∀ {xs : List D} {vs : List V} {pre : List Addr} {row : List Gc} {ls : List (List Int)}, Reps K z G xs vs → rowOf pre.length xs = some (row, ls) →
    ∃ ps : List Addr, ps.length = ls.length ∧ vs = row.map (gcV ⟨s, pre ++ ps, true, none⟩) ∧ (∀ (k : Nat) p l, ps[k]? = some p → ls[k]? = some l → G p = some (.lst (l.map V.int))) ∧ (ls ≠ [] → ∃ p, V.ref p ∈ vs)
  | [], _, pre, row, ls, h, e => by
    unfold Reps at h
    subst h
    unfold rowOf at e
    cases e
    exact ⟨[], rfl, rfl, (fun k p l e => by cases e), fun z => absurd rfl z⟩
  | d :: xs, _, pre, row, ls, h, e => by
    unfold Reps at h
    obtain ⟨v, r, rfl, q, t⟩ := h
    unfold rowOf at e
    split at e
    · rename_i e0; cases e0
    · rename_i i r2 e0
      cases e0
      split at e
      · rename_i a b e1
        cases e
        obtain ⟨ps, h1, h2, h3, h4⟩ := row_at s t e1
        refine ⟨ps, h1, ?_, h3, fun z => ?_⟩
        · rw [List.map_cons, ← h2, q.inj_int]
          rfl
        · obtain ⟨p, hp⟩ := h4 z
          exact ⟨p, List.mem_cons_of_mem _ hp⟩
      · cases e
    · rename_i ys r2 e0
      cases e0
      split at e
      · rename_i l a b e1 e2
        cases e
        unfold Rep at q
        obtain ⟨p, us, rfl, hp, hr⟩ := q
        have e2' : rowOf (pre ++ [p]).length xs = some (a, b) := by rw [List.length_append]; exact e2
        obtain ⟨ps, h1, h2, h3, h4⟩ := row_at s t e2'
        refine ⟨p :: ps, by simp [h1], ?_, fun k p' l' e3 e4 => ?_, fun _ => ⟨p, List.mem_cons_self⟩⟩
        · rw [List.append_assoc] at h2
          rw [List.map_cons]
          have e5 : gcV ⟨s, pre ++ p :: ps, true, none⟩ (.at_ pre.length) = .ref p := gcV_at (by simp)
          rw [e5, h2]
          rfl
        · cases k with
          | zero =>
            cases e3
            cases e4
            rw [hp, hr.ints e1]
          | succ k => exact h3 k p' l' e3 e4
      · cases e
    · cases e
/-- the list that is made becomes the draws' list -/
theorem birth {K : PySem.W.Frag} {z : Fs} {G H : Hp} {v : V} {xs : List D} {row : List Gc} {ls : List (List Int)} (s : Same G H) (h : Rep K z G (.lst xs) v) (e : rowOf 0 xs = some (row, ls)) (nd : ls.Nodup) :
    ∃ a : Fs, v = .ref a.s ∧ a.er = none ∧ World a ⟨row, ls⟩ noG H := by
  unfold Rep at h
  obtain ⟨p, vs, rfl, hp, hr⟩ := h
  obtain ⟨ps, h1, h2, h3, h4⟩ := row_at p (pre := []) hr e
  refine ⟨⟨p, [] ++ ps, true, none⟩, rfl, rfl, ⟨(fun b o e => by cases e), (fun _ => by show H p = some (.lst (row.map (gcV ⟨p, [] ++ ps, true, none⟩))); rw [← h2]; exact s _ _ hp), (fun q => by cases q), fun k q l e1 e2 => s _ _ (h3 k q l e1 e2), h1, fun b q => rfl, fun hm => ?_, ?_⟩⟩
  · obtain ⟨k, hk, e1⟩ := List.getElem_of_mem (show p ∈ ps from hm)
    have hk2 : k < ls.length := by rw [← h1]; exact hk
    have e2 := h3 k p _ (by rw [List.getElem?_eq_getElem hk, e1]) (List.getElem?_eq_getElem hk2)
    rw [hp] at e2
    have e3 : vs = (ls[k]).map V.int := by
      injection e2 with e2
      injection e2
    obtain ⟨q, hq⟩ := h4 (fun z => by rw [z] at hk2; cases hk2)
    rw [e3] at hq
    obtain ⟨i, _, hi⟩ := List.mem_map.mp hq
    cases hi
  · show ps.Nodup
    refine List.pairwise_iff_getElem.mpr fun i j hi hj hij ne => ?_
    have e1 := h3 i _ _ (List.getElem?_eq_getElem hi) (List.getElem?_eq_getElem (h1 ▸ hi))
    have e2 := h3 j _ _ (List.getElem?_eq_getElem hj) (List.getElem?_eq_getElem (h1 ▸ hj))
    rw [ne, e2] at e1
    have e3 : (ls[j]'(h1 ▸ hj)).map V.int = (ls[i]'(h1 ▸ hi)).map V.int := by
      injection e1 with e1
      injection e1
    have inj : ∀ {a b : List Int}, a.map V.int = b.map V.int → a = b := fun {a b} h => by
      exact (List.map_inj_right (fun x y e => by cases e; rfl)).mp h
    exact absurd ((List.getElem_inj nd).mp (inj e3)).symm (Nat.ne_of_lt hij)
theorem get_set_self {ρ : Env} {i : Nat} {q : Cell} (h : i < ρ.length) : Env.get (ρ.set i (some q)) i = some q := by
  unfold Env.get
  rw [List.getElem?_set_self h]
theorem none_get {n j : Nat} {q : Cell} (h : Env.get (List.replicate n none) j = some q) : False := by
  unfold Env.get at h
  rw [List.getElem?_replicate] at h
  split at h
  · rename_i e
    split at e <;> cases e
  · cases h
def spLaw (K : PySem.W.Frag) : Sp := fun vs H Q _ => ∃ (a : Addr) (ns : List Int), vs = [.ref a] ∧ SqL K H a (ns.map V.int) ∧ ns.length ≤ 63 ∧ ∀ H', Q (.bl true) H'
/-- what is to be shown of the law in plain Lean -/
def Plain (T : List Fn) (k n i : Nat) (st : List D → List D) (f : Nat) (ms : List Mi.S) : Prop :=
  ∀ ns : List Int, ns.length ≤ 63 → ∃ xs row ls g, call T k f (st [.scr ns]) offS = .ok (.lst xs) offS ∧ rowOf 0 xs = some (row, ls) ∧ ls.Nodup ∧
    exL (call T k) ms ((List.replicate n none).set i (some (.val .st))) ⟨row, ls⟩ = .rt (.bl true) g
section
variable {P : Program} {w : PySem.World} {K : PySem.W.Frag} {mg : Str → Option Value} {base : Heap}
theorem law_ok {T : List Fn} {tp : Tp} {L k : Nat} {st s0 : Stmt} {rest : List Stmt} {f : Addr} {fd : FuncData} {N : List Str} {fr ln : List Nat} {cel : List Str} {fuel i fi : Nat} {es : List E} {ms : List Mi.S} {ex : List D}
    (A : TabAt P w K mg base T tp L) (F : Fun K "law" "law" st f fd) (sc : FnScope N ["script"] (defScope st)) (hb : defBody st = s0 :: rest)
    (h0 : trS ⟨N, (defScope st).names, cel, tp.fns, tp.con, [], [], false, tp.hots, tp.xs⟩ fuel s0 = some (.asg i (.call fi (.nm 0 :: es)))) (h1 : trSs ⟨N, (defScope st).names, cel, tp.fns, tp.con, fr, ln, false, tp.hots, tp.xs⟩ fuel rest = some ms)
    (hN : 0 < N.length) (hi : i < N.length) (hes : ∀ (c : CallF) (ρ : Env) (g : Gs), evL c es ρ g = .ok ex g) (pl : Plain T k N.length i (fun ds => ds ++ ex) fi ms) : FnOk P w K mg base (L2N.CX P w) (k + L + 1) f fd ["script"] (spLaw K) := by
  refine okN F sc (fun vs H Q E h => ?_) fun cdv Ar outer s H vs Q E hr h => ?_
  · obtain ⟨a, ns, rfl, _⟩ := h
    rfl
  · obtain ⟨a, ns, rfl, hS, hlen, out⟩ := h
    obtain ⟨xs, row, ls, g', c1, c2, c3, c4⟩ := pl ns hlen
    let mk : Fs → Hp → Hp → Sx := fun a H0 G0 => ⟨K, a, call T k, fun cls d _ H' => E cls d H', H0, G0, tp.xs⟩
    have gs : ∀ (fr ln : List Nat) (a : Fs) (H0 G0 : Hp), a.er = none → GS (cxOf (L2N.CX P w) P w K mg base N "law" (defScope st) f cdv Ar outer s H E) ⟨N, (defScope st).names, cel, tp.fns, tp.con, fr, ln, false, tp.hots, tp.xs⟩ (mk a H0 G0) (k + L) := fun fr ln a H0 G0 er => by
      refine ⟨⟨rfl, sc.nd, rfl, sc.kind, fun _ => rfl, ⟨hr.dp, hr.un⟩, fun _ => ⟨hr, er⟩, (fun z => Bool.noConfusion z), rfl, rfl, L2N.takes_of rfl rfl rfl rfl, ?_, fun _ _ => rfl⟩, passes_of rfl, ⟨rfl, rfl⟩⟩
      exact tab_all A k ⟨N, (defScope st).names, cel, tp.fns, tp.con, fr, ln, false, tp.hots, tp.xs⟩ rfl rfl rfl rfl
    -- what is known at the entry: the script
    obtain ⟨G0, hG, hScr⟩ : ∃ G0 : Hp, Same G0 H ∧ SqL K G0 a (ns.map V.int) := ⟨H, Same.refl H, hS⟩
    have w0 : World offF offS G0 H := ⟨hG, (fun q => by cases q), fun _ => ⟨rfl, rfl⟩, (fun k p xs e => by cases e), rfl, (fun b q => by cases q.1), List.not_mem_nil, List.nodup_nil⟩
    have second : PSs (cxOf (L2N.CX P w) P w K mg base N "law" (defScope st) f cdv Ar outer s H E) rest (fun Dn σ H' => ∃ a H0 G0, a.er = none ∧ tSs (mk a H0 G0) ms Dn σ H') := ⟨fun pins s' σ H' Q' I ⟨a, H0, G0, er, q⟩ => ((sts_all fuel).l (gs fr ln a H0 G0 er) h1).run pins s' σ H' Q' I q⟩
    rw [hb]
    refine ⟨_, pss_cons ((sts_all fuel).s (gs [] [] offF H G0 rfl) h0) second, envOf [.scr ns] N.length, G0, offS, ?_, w0, Ext.refl, ?_⟩
    · exact slots_start (N := N) (Reps.cons (by unfold Rep; exact ⟨a, rfl, hScr⟩) Reps.nil) hN
    · have ev0 : ev (call T k) (.call fi (.nm 0 :: es)) (envOf [.scr ns] N.length) offS = .ok (.lst xs) offS := by
        unfold ev evL
        have e1 : (envOf [.scr ns] N.length).get 0 = some (.val (.scr ns)) := rfl
        unfold ev
        rw [e1]
        simp only [R.bind_ok, hes]
        exact c1
      unfold exS
      show SRes _ _ ((ev (call T k) (.call fi (.nm 0 :: es)) (envOf [.scr ns] N.length) offS).st _ _) _
      rw [ev0]
      intro σ G1 H1 sl w1 x1 s1
      have e2 : (mkCell (isFr (.call fi (.nm 0 :: es))) (.lst xs)) = .val (.lst xs) := rfl
      rw [e2] at sl
      obtain ⟨v, e3, rv⟩ := sl.val i _ (get_set_self (by unfold envOf; simp; omega))
      obtain ⟨b, rfl, eb, wb⟩ := birth w1.sub rv c2 c3
      refine ⟨b, H1, noG, eb, (List.replicate N.length none).set i (some (.val .st)), noG, ⟨row, ls⟩, ?_, wb, Ext.refl, ?_⟩
      · refine ⟨?_, fun j d e => ?_, fun j ds e => ?_, fun j l ds es' ne e e' => ?_⟩
        · have hl := sl.len
          unfold envOf at hl
          simp at hl ⊢
          omega
        · rcases Env.get_set e with ⟨rfl, z, _⟩ | ⟨_, z⟩
          · cases z
            exact ⟨_, e3, by unfold Rep; rfl⟩
          · exact (none_get z).elim
        · rcases Env.get_set e with ⟨rfl, z, _⟩ | ⟨_, z⟩
          · cases z
          · exact (none_get z).elim
        · rcases Env.get_set e with ⟨rfl, z, _⟩ | ⟨_, z⟩
          · cases z
          · exact (none_get z).elim
      · show SRes _ _ (exL (call T k) ms _ _) _
        rw [c4]
        intro v G2 H2 _ _ r
        unfold Rep at r
        subst r
        exact out H2
end
end Mi


set_option maxRecDepth 100000
set_option Elab.async false
/-! Xc3: what is told of __init__ by its text alone. -/
namespace Xc
open PySem PySem.W PySem.Calls PyProof.Rows PySem.HandSPX
theorem hev1 (f : Str) {p0 p1 p2 p3 e1 : Pos} (hl : (p2.endLine == p3.line) = true) (env : PySem.Env) : ∃ pl : Sem Bool, eval (.Call (.Attribute (.Call (.Name "super" p0) [] [] p1) "__init__" p2) [.Name f e1] [] p3) env = (do
      let ov ← attributeBase (.Call (.Name "super" p0) [] [] p1) "__init__" env (eval (.Call (.Name "super" p0) [] [] p1) env)
      standAt p2.atName
      let (fv, first) ← holding [ov] (getMethod ov "__init__" pl)
      callWith p3 fv first (backTo p3 (starEach [.Name f e1] env)) []) := by
  refine ⟨(do return (← importBound (.Call (.Name "super" p0) [] [] p1) env).getD true), ?_⟩
  rw [eval]
  unfold methodCall methodCallPos
  rw [hl]
  rfl
theorem hev2 (f g : Str) {p0 p1 p2 p3 e1 e2 : Pos} (hl : (p2.endLine == p3.line) = true) (env : PySem.Env) : ∃ pl : Sem Bool, eval (.Call (.Attribute (.Call (.Name "super" p0) [] [] p1) "__init__" p2) [.Name f e1, .Name g e2] [] p3) env = (do
      let ov ← attributeBase (.Call (.Name "super" p0) [] [] p1) "__init__" env (eval (.Call (.Name "super" p0) [] [] p1) env)
      standAt p2.atName
      let (fv, first) ← holding [ov] (getMethod ov "__init__" pl)
      callWith p3 fv first (backTo p3 (starEach [.Name f e1, .Name g e2] env)) []) := by
  refine ⟨(do return (← importBound (.Call (.Name "super" p0) [] [] p1) env).getD true), ?_⟩
  rw [eval]
  unfold methodCall methodCallPos
  rw [hl]
  rfl
theorem hbd1 {f : Str} (hf : f ∈ (["shape", "packet", "number", "value", "place", "what"] : List Str)) (qual : Str) (b : List Stmt) (p q : Pos) (doc pm ct : Value) (an : Option Addr) (cda cc : Addr) (u v : Value) : bindArgs (ksFn "__init__" qual (ia1 f p q) b (is1 f) .none .none doc pm an (.ref cda) ct cc) ⟨[u, v], []⟩ = pure [(("self" : Str), u), (f, v)] := by
  simp at hf
  rcases hf with rfl | rfl | rfl | rfl | rfl | rfl <;> rfl
theorem hbd2 (qual : Str) (b : List Stmt) (p q r : Pos) (doc pm ct : Value) (an : Option Addr) (cda cc : Addr) (u v z : Value) : bindArgs (ksFn "__init__" qual (ia2 "what" "packet" p q r) b (is2 "what" "packet") .none .none doc pm an (.ref cda) ct cc) ⟨[u, v, z], []⟩ = pure [(("self" : Str), u), ("what", v), ("packet", z)] := rfl
end Xc


set_option Elab.async false
set_option maxRecDepth 100000
set_option maxHeartbeats 4000000
/-! Mi17: the table out of the written part; the walk of the law. -/
namespace Mi
open PySem L2
/-- what of a def is to be seen from its text alone -/
structure DefTx (tp : Tp) (hot : Bool) (x : Str) (st : Stmt) (ps : List Str) (n : Nat) (body : List Mi.S) : Prop where
  bd : ∀ (kV doc pm : Value) (an : Option Addr) (cdv ct : Value) (us : List Value), us.length = ps.length → bindArgs (PySem.W.fnOf x x (defArgs st) (defBody st) (defScope st) .none kV doc pm an cdv ct) ⟨us, []⟩ = pure (ps.zip us)
  tr : ∃ (N cel : List Str) (fr ln : List Nat) (fuel : Nat), N.length = n ∧ ps.length ≤ n ∧ FnScope N ps (defScope st) ∧ trSs ⟨N, (defScope st).names, cel, tp.fns, tp.con, fr, ln, hot, tp.hots, tp.xs⟩ fuel (defBody st) = some body
theorem defAt_mk {K : PySem.W.Frag} {h : Heap} {mg : Str → Option Value} {tp : Tp} {hot : Bool} {x : Str} {st : Stmt} {ps : List Str} {n : Nat} {body : List Mi.S} (X : K.In h) (G : h.Ns mainGlobals mg)
    {f : Addr} {od an : Option Addr} {sl : Array (Option Value)} {oc kV dc pm cd ct : Value} (a : PySem.W.nsIn K mainGlobals x = some (some (.ref f)))
    (l : K.lookup f = some ⟨oc, od, .func (PySem.W.fnOf x x (defArgs st) (defBody st) (defScope st) .none kV dc pm an cd ct), sl⟩) (c : PySem.W.codeIn K cd x = true) (k : PySem.W.keepIn K (.ref f) = true) (t : DefTx tp hot x st ps n body) : DefAt K mg tp hot x ps.length n body := by
  obtain ⟨N, cel, fr, ln, fuel, h1, h2, h3, h4⟩ := t.tr
  exact ⟨st, f, _, N, ps, fr, ln, cel, fuel, PySem.W.mg_of X G a, fun_mk (st := st) l c k, (fun_mk (st := st) l c k).binds t.bd, rfl, h1, h2, h3, h4⟩
/-- the defs, one by one, from the i-th on -/
inductive DefsAt (K : PySem.W.Frag) (mg : Str → Option Value) (tp : Tp) : Nat → List (Str × Nat) → List Fn → Prop
  | nil {i : Nat} : DefsAt K mg tp i [] []
  | cons {i : Nat} {x : Str} {n np sl : Nat} {body : List Mi.S} {fs : List (Str × Nat)} {ts : List Fn} : DefAt K mg tp (tp.hots.contains i) x np sl body → DefsAt K mg tp (i + 1) fs ts → DefsAt K mg tp i ((x, n) :: fs) (.dfn np sl body :: ts)
theorem DefsAt.dfn {K : PySem.W.Frag} {mg : Str → Option Value} {tp : Tp} : ∀ {k : Nat} {fs : List (Str × Nat)} {ts : List Fn}, DefsAt K mg tp k fs ts → ∀ (i : Nat) (x : Str) (n np sl : Nat) (body : List Mi.S), fs[i]? = some (x, n) → ts[i]? = some (Fn.dfn np sl body) → DefAt K mg tp (tp.hots.contains (k + i)) x np sl body
  | _, _, _, .nil, _, _, _, _, _, _, e, _ => by cases e
  | _, _, _, .cons h t, 0, _, _, _, _, _, e1, e2 => by
    cases e1
    cases e2
    exact h
  | k, _, _, .cons h t, i + 1, _, _, _, _, _, e1, e2 => by
    have q := t.dfn i _ _ _ _ _ e1 e2
    rw [show k + (i + 1) = k + 1 + i by omega]
    exact q
theorem DefsAt.prm {K : PySem.W.Frag} {mg : Str → Option Value} {tp : Tp} : ∀ {k : Nat} {fs : List (Str × Nat)} {ts : List Fn}, DefsAt K mg tp k fs ts → ∀ (i np : Nat) (h : List D → Gs → R D), ts[i]? ≠ some (Fn.prm np h)
  | _, _, _, .nil, _, _, _, e => by cases e
  | _, _, _, .cons h t, 0, _, _, e => by cases e
  | _, _, _, .cons h t, i + 1, _, _, e => t.prm i _ _ e
def okTab (fns : List (Str × Nat)) (T : List Fn) : Bool := match fns, T with
  | [], _ => true
  | (x, n) :: fs, fn :: ts => fn.ps == n && !(x == ("__debug__" : Str)) && okTab fs ts
  | _, _ => false
theorem okTab_at : ∀ {fns : List (Str × Nat)} {T : List Fn}, okTab fns T = true → ∀ (i : Nat) (x : Str) (n : Nat), fns[i]? = some (x, n) → (∃ fn : Fn, T[i]? = some fn ∧ fn.ps = n) ∧ (x == ("__debug__" : Str)) = false
  | [], _, _, _, _, _, e => by cases e
  | (y, m) :: fs, [], h, _, _, _, _ => by cases h
  | (y, m) :: fs, fn :: ts, h, i, x, n, e => by
    unfold okTab at h
    rw [Bool.and_eq_true, Bool.and_eq_true] at h
    obtain ⟨⟨h1, h2⟩, h3⟩ := h
    cases i with
    | zero =>
      cases e
      exact ⟨⟨fn, rfl, by simpa using h1⟩, by simpa using h2⟩
    | succ i => exact okTab_at h3 i x n e
/-- the built-ins stand under their names, the module's numbers under theirs -/
inductive NoneAt (mg : Str → Option Value) : List Str → Prop
  | nil : NoneAt mg []
  | cons {x : Str} {xs : List Str} : mg x = none → NoneAt mg xs → NoneAt mg (x :: xs)
theorem NoneAt.at_ {mg : Str → Option Value} : ∀ {xs : List Str}, NoneAt mg xs → ∀ x ∈ xs, mg x = none
  | _, .nil, x, h => by cases h
  | _, .cons h t, x, hx => by
    rcases List.mem_cons.mp hx with e | e
    · exact e ▸ h
    · exact t.at_ x e
inductive ConAt (mg : Str → Option Value) : List (Str × Int) → Prop
  | nil : ConAt mg []
  | cons {x : Str} {n : Int} {t : _} {xs : List (Str × Int)} : mg x = some (.int n t) → ConAt mg xs → ConAt mg ((x, n) :: xs)
theorem ConAt.at_ {mg : Str → Option Value} : ∀ {xs : List (Str × Int)}, ConAt mg xs → ∀ x n, xs.lookup x = some n → ∃ t, mg x = some (.int n t)
  | _, .nil, x, n, h => by cases h
  | _, .cons (x := y) h r, x, n, hx => by
    rw [List.lookup_cons] at hx
    split at hx
    · rename_i e
      cases hx
      exact ⟨_, (by simpa using e : x = y) ▸ h⟩
    · exact r.at_ x n hx
/-! ### the classes of errors, out of the written part -/
open PySem.W PySem.HandSPX in
def clsB (K : PySem.W.Frag) (C : Addr) (fs : List Str) : Bool :=
  decide (findIn K (.ref C) "__setattr__" = some (some (.builtin "object.__setattr__"))) && decide (findIn K (.ref C) "__getattribute__" = some (some (.builtin "BaseException.__getattribute__"))) && decide (findIn K (.ref C) "__getattr__" = some none) &&
  fs.all (fun f => decide (findIn K (.ref C) f = some none)) && decide (findIn K (.ref C) "__class__" = some (some (.builtin "object.__class__"))) && decide (mroIn K C (.ref C) = some true) && decide (mroIn K C (.type "object") = some true) &&
  decide (subIn K (.ref C) (.type "ValueError") = some true) && decide (subIn K (.ref C) (.type "BaseException") = some true) && hasDictIn K C && decide (typeIn K (.ref C) = some (.type "type")) && keepIn K (.ref C) &&
  decide (ks_superIn K C C "__init__" = some (some (.builtin "ValueError.__init__"))) && excInitIn K C ([.type "ValueError", .type "Exception", .type "BaseException", .type "object"]) "ValueError.__new__" && (match clsIn K C with
    | some cd => refsVE cd.mro && cd.hasDict
    | none => false)
open PySem.W in
/-- what is asked of the built-in part -/
def statB (K : PySem.W.Frag) : Bool := decide (specialIn K (.builtin "object.__class__") "__get__" = some (some (.builtin "getset_descriptor.__get__"))) && decide (takesIn K (.builtin "object.__class__") = some true) && decide (nsIn K cStatics "thirdparty.any" = some none)
def relB (K : PySem.W.Frag) (xs : List Nat) : Bool := xs.all fun i => (100 :: 101 :: xs).all fun j => match clsA K i, clsV K j with
  | some C, some u => decide (PySem.W.kitOne K (.ref C) u = some (isSub i j)) && decide (PySem.W.exmOne K (.ref C) u = some (isSub i j))
  | _, _ => true
theorem clsA_of {K : PySem.W.Frag} {j : Nat} {x : Str} {C : Addr} (hx : exNm j = x) (a : PySem.W.nsIn K mainGlobals x = some (some (.ref C))) : clsA K j = some C := by
  unfold clsA
  rw [hx, a]
structure ClsFacts (P : Program) (K : PySem.W.Frag) (C : Addr) (fs : List Str) : Prop where
  own : Xc.Own K P C C
  kC : PySem.W.keepIn K (.ref C) = true
  exC : PySem.W.subIn K (.ref C) (.type "BaseException") = some true
  tyC : PySem.W.typeIn K (.ref C) = some (.type "type")
  xf : XfC K C
  ec : ExcC K C
  no : ∀ f ∈ fs, PySem.W.findIn K (.ref C) f = some none
theorem clsFacts {P : Program} {K : PySem.W.Frag} {C : Addr} {fs : List Str} (b : clsB K C fs = true) (s : statB K = true) (t : (P.main.scope.names.lookup ("super" : Str)).isSome = false) : ClsFacts P K C fs := by
  unfold clsB at b
  unfold statB at s
  simp only [Bool.and_eq_true, decide_eq_true_eq, List.all_eq_true] at b s
  obtain ⟨⟨⟨⟨⟨⟨⟨⟨⟨⟨⟨⟨⟨⟨b1, b2⟩, b3⟩, b4⟩, b5⟩, b6⟩, b7⟩, b8⟩, b9⟩, b10⟩, b11⟩, b12⟩, b13⟩, b14⟩, b15⟩ := b
  obtain ⟨⟨s1, s2⟩, s3⟩ := s
  split at b15
  · rename_i cd hcd
    simp only [Bool.and_eq_true] at b15
    exact ⟨⟨⟨cd, hcd, b15.1, b15.2⟩, b6, b8, b1, s3, b13, b14, t⟩, b12, b9, b11, ⟨b2, b3, b9, b10⟩, ⟨b2, b3, b9, b10, b5, s1, s2, b7⟩, b4⟩
  · cases b15
section
open PySem.W Xc
variable {P : Program} {K : PySem.W.Frag} {h : Heap} {mg : Str → Option Value} {x qual f g : Str} {C fI cda cc B : Addr} {j : Nat}
theorem clsAt1 {oc doc pm ct ccl cl : Value} {od an cdd cld : Option Addr} {osl ccs csl : Array (Option Value)} {p1 p2 q0 q1 q2 q3 q4 e1 a b c d : Pos} {vs : Array Value} {file : Str} {tf : Tok} (X : K.In h) (G : h.Ns mainGlobals mg)
    (sup : nsIn K mainGlobals "super" = some none) (st : statB K = true) (top : (P.main.scope.names.lookup ("super" : Str)).isSome = false) (hx : exNm j = x) (hf : exFs j = [f]) (hm : f ∈ (["shape", "packet", "number", "value", "place", "what"] : List Str))
    (aC : nsIn K mainGlobals x = some (some (.ref C))) (aB : clsB K C [f] = true) (aI : findIn K (.ref C) "__init__" = some (some (.ref fI))) (aT : typeIn K (.ref fI) = some (.type "function"))
    (aF : K.lookup fI = some ⟨oc, od, .func (ksFn "__init__" qual (ia1 f p1 p2) (ib1 f q0 q1 q2 q3 q4 e1 a b c d) (is1 f) .none .none doc pm an (.ref cda) ct cc), osl⟩) (aK : codeIn K (.ref cda) qual = true)
    (aD : K.lookup cda = some ⟨ccl, cdd, .fields vs, ccs⟩) (aV : vs[2]? = some (.str file tf)) (aP : ((P.main.file : Str) == file) = true) (aE : K.lookup cc = some ⟨cl, cld, .cell (some (.ref C)), csl⟩) (aL : (q2.endLine == q3.line) = true) : ClsAt P K mg j := by
  have F := clsFacts aB st top
  have gC := mg_of X G aC
  have hms := mg_none_of X G sup
  have ne : f ≠ "self" ∧ f ≠ "super" ∧ f ≠ "__class__" ∧ (f == ("__debug__" : Str)) = false := by
    simp at hm
    rcases hm with rfl | rfl | rfl | rfl | rfl | rfl <;> exact ⟨by decide, by decide, by decide, by decide⟩
  have O : ∀ y, Own K P C y := fun y => ⟨F.own.cls, F.own.sub, F.own.ve, F.own.sa, F.own.opq, F.own.sup, F.own.ini, F.own.top⟩
  refine ⟨C, clsA_of hx aC, ?_, F.xf, F.ec, ?_⟩
  · rw [hx, hf]
    exact mkC1 gC hms F.kC F.exC F.tyC ⟨F.own.ini, aI, aT⟩ ⟨O fI, F.no f List.mem_cons_self, ⟨ne.2.2.2, ne.1, ne.2.1, ne.2.2.1⟩, ⟨oc, doc, pm, ct, od, an, osl, cda, cc, p1, p2, q0, q1, q2, q3, q4, e1, a, b, c, d, vs, file, tf, ccl, cl, cdd, cld, ccs, csl, aF, aK, aD, aV, aP, aE, hbd1 hm qual _ p1 p2 doc pm ct an cda cc, hev1 f aL⟩⟩
  · rw [hf]; exact F.no
theorem clsAt2 {oc doc pm ct ccl cl : Value} {od an cdd cld : Option Addr} {osl ccs csl : Array (Option Value)} {p1 p2 p3 q0 q1 q2 q3 q4 e1 e2 a b c d a' b' c' d' : Pos} {vs : Array Value} {file : Str} {tf : Tok} (X : K.In h) (G : h.Ns mainGlobals mg)
    (sup : nsIn K mainGlobals "super" = some none) (st : statB K = true) (top : (P.main.scope.names.lookup ("super" : Str)).isSome = false) (hx : exNm j = x) (hf : exFs j = (["what", "packet"] : List Str))
    (aC : nsIn K mainGlobals x = some (some (.ref C))) (aB : clsB K C (["what", "packet"] : List Str) = true) (aI : findIn K (.ref C) "__init__" = some (some (.ref fI))) (aT : typeIn K (.ref fI) = some (.type "function"))
    (aF : K.lookup fI = some ⟨oc, od, .func (ksFn "__init__" qual (ia2 "what" "packet" p1 p2 p3) (ib2 "what" "packet" q0 q1 q2 q3 q4 e1 e2 a b c d a' b' c' d') (is2 "what" "packet") .none .none doc pm an (.ref cda) ct cc), osl⟩) (aK : codeIn K (.ref cda) qual = true)
    (aD : K.lookup cda = some ⟨ccl, cdd, .fields vs, ccs⟩) (aV : vs[2]? = some (.str file tf)) (aP : ((P.main.file : Str) == file) = true) (aE : K.lookup cc = some ⟨cl, cld, .cell (some (.ref C)), csl⟩) (aL : (q2.endLine == q3.line) = true) : ClsAt P K mg j := by
  have F := clsFacts aB st top
  have gC := mg_of X G aC
  have hms := mg_none_of X G sup
  have O : ∀ y, Own K P C y := fun y => ⟨F.own.cls, F.own.sub, F.own.ve, F.own.sa, F.own.opq, F.own.sup, F.own.ini, F.own.top⟩
  refine ⟨C, clsA_of hx aC, ?_, F.xf, F.ec, ?_⟩
  · rw [hx, hf]
    exact mkC2 gC hms F.kC F.exC F.tyC ⟨F.own.ini, aI, aT⟩ ⟨O fI, ⟨F.no "what" (by simp), F.no "packet" (by simp)⟩, ⟨by decide, by decide, by decide, by decide⟩, ⟨by decide, by decide, by decide, by decide, by decide⟩, ⟨oc, doc, pm, ct, od, an, osl, cda, cc, p1, p2, p3, q0, q1, q2, q3, q4, e1, e2, a, b, c, d, a', b', c', d', vs, file, tf, ccl, cl, cdd, cld, ccs, csl, aF, aK, aD, aV, aP, aE, hbd2 qual _ p1 p2 p3 doc pm ct an cda cc, hev2 "what" "packet" aL⟩⟩
  · rw [hf]; exact F.no
inductive ClsesAt (P : Program) (K : PySem.W.Frag) (mg : Str → Option Value) : List Nat → Prop
  | nil : ClsesAt P K mg []
  | cons {j : Nat} {xs : List Nat} : ClsAt P K mg j → ClsesAt P K mg xs → ClsesAt P K mg (j :: xs)
theorem ClsesAt.at_ : ∀ {xs : List Nat}, ClsesAt P K mg xs → ∀ j ∈ xs, ClsAt P K mg j
  | _, .nil, j, h => by cases h
  | _, .cons a t, j, h => by
    rcases List.mem_cons.mp h with rfl | h
    · exact a
    · exact t.at_ j h
theorem clsAll {xs : List Nat} (X : K.In h) (G : h.Ns mainGlobals mg) (cs : ClsesAt P K mg xs) (lt : xs.all (fun j => decide (j < 13)) = true) (aB : nsIn K mainGlobals "OathError" = some (some (.ref B))) (aV : nsIn K mainGlobals "ValueError" = some none) (rel : relB K xs = true) : ClsAll P K mg xs := by
  refine ⟨cs.at_, fun j hj => ?_, fun i hi j hj C u e1 e2 => ?_⟩
  · rcases List.mem_cons.mp hj with rfl | hj
    · refine ⟨.ref B, ?_, .inl ⟨B, rfl, mg_of X G aB⟩, by decide⟩
      unfold clsV
      rw [if_neg (by decide)]
      show (match nsIn K mainGlobals "OathError" with | some (some (.ref C)) => some (Value.ref C) | _ => none) = _
      rw [aB]
    · rcases List.mem_cons.mp hj with rfl | hj
      · exact ⟨.type "ValueError", rfl, .inr ⟨rfl, mg_none_of X G aV, rfl⟩, by decide⟩
      · obtain ⟨C, e1, M, _⟩ := (cs.at_ j hj).at_
        have hl : j < 13 := by
          have := List.all_eq_true.mp lt j hj
          simpa using this
        have e : clsNm j = exNm j := by
          unfold clsNm
          rw [if_neg (by omega), if_neg (by omega)]
        refine ⟨.ref C, ?_, .inl ⟨C, rfl, by rw [e]; exact M.gC⟩, ?_⟩
        · unfold clsV
          rw [if_neg (by omega), e]
          unfold clsA at e1
          split at e1
          · cases e1
            rename_i q
            first
              | rw [q]
              | rfl
          · cases e1
        · rw [e]
          have all : (List.range 13).all (fun j => !(exNm j == ("__debug__" : Str))) = true := by decide
          have := List.all_eq_true.mp all j (List.mem_range.mpr hl)
          simpa using this
  · unfold relB at rel
    have q := List.all_eq_true.mp (List.all_eq_true.mp rel i hi) j hj
    rw [e1, e2] at q
    simp only [Bool.and_eq_true, decide_eq_true_eq] at q
    exact q
theorem clsNone (aV : ∃ h, K.In h ∧ h.Ns mainGlobals mg ∧ nsIn K mainGlobals "ValueError" = some none ∧ nsIn K mainGlobals "OathError" = some (some (.ref B))) : ClsAll P K mg [] := by
  obtain ⟨h, X, G, a1, a2⟩ := aV
  exact clsAll X G .nil rfl a2 a1 rfl
end
/-- the law's own text -/
structure LawTx (T : List Fn) (tp : Tp) (st : Stmt) (k : Nat) : Prop where
  bd : ∀ (kV doc pm : Value) (an : Option Addr) (cdv ct : Value) (us : List Value), us.length = ["script"].length → bindArgs (PySem.W.fnOf "law" "law" (defArgs st) (defBody st) (defScope st) .none kV doc pm an cdv ct) ⟨us, []⟩ = pure ((["script"] : List Str).zip us)
  tr : ∃ (N cel : List Str) (fr ln : List Nat) (fuel i fi : Nat) (s0 : Stmt) (rest : List Stmt) (es : List E) (ex : List D) (ms : List Mi.S), FnScope N ["script"] (defScope st) ∧ defBody st = s0 :: rest ∧
    trS ⟨N, (defScope st).names, cel, tp.fns, tp.con, [], [], false, tp.hots, tp.xs⟩ fuel s0 = some (.asg i (.call fi (.nm 0 :: es))) ∧ trSs ⟨N, (defScope st).names, cel, tp.fns, tp.con, fr, ln, false, tp.hots, tp.xs⟩ fuel rest = some ms ∧
    0 < N.length ∧ i < N.length ∧ (∀ (c : CallF) (ρ : Env) (g : Gs), evL c es ρ g = .ok ex g) ∧ Plain T k N.length i (fun ds => ds ++ ex) fi ms
theorem law_mk {l : PySem.W.OpenLaw} {w : PySem.World} {K : PySem.W.Frag} {h : Heap} {mg : Str → Option Value} {fa f : Addr} {T : List Fn} {tp : Tp} {st : Stmt} {k : Nat} (X : K.In h) (G : h.Ns mainGlobals mg) (hfa : mg "law" = some (.ref fa))
    {od an : Option Addr} {sl : Array (Option Value)} {oc kV dc pm cd ct : Value} (aL : PySem.W.nsIn K mainGlobals "law" = some (some (.ref f)))
    (lL : K.lookup f = some ⟨oc, od, .func (PySem.W.fnOf "law" "law" (defArgs st) (defBody st) (defScope st) .none kV dc pm an cd ct), sl⟩) (cL : PySem.W.codeIn K cd "law" = true) (kL : PySem.W.keepIn K (.ref f) = true)
    (t : LawTx T tp st k) (ok : okTab tp.fns T = true) (ds : DefsAt K mg tp 0 tp.fns T) (bs : NoneAt mg blts) (cs : ConAt mg tp.con) (cl : ClsAll l.prog K mg tp.xs) :
    ∃ fd : FuncData, (∀ (s : Shared) (v : Value), BindsTo s fd ⟨[v], []⟩ [("script", v)]) ∧ ∀ base : Heap, K.In base → base.Ns mainGlobals mg → FnOk l.prog w K mg base (L2N.CX l.prog w) (k + 0 + 1) fa fd ["script"] (spLaw K) := by
  have e := hfa.symm.trans (PySem.W.mg_of X G aL)
  cases e
  obtain ⟨N, cel, fr, ln, fuel, i, fi, s0, rest, es, ex, ms, h1, h2, h3, h4, h5, h6, h7, h8⟩ := t.tr
  refine ⟨PySem.W.fnOf "law" "law" (defArgs st) (defBody st) (defScope st) .none kV dc pm an cd ct, fun s v => .of_eq (t.bd _ _ _ _ _ _ [v] rfl), fun base _ _ => law_ok (L := 0) ⟨okTab_at ok, (fun i x n np sl body e1 e2 => by have q := ds.dfn i x n np sl body e1 e2; rw [Nat.zero_add] at q; exact q), fun i x n np h _ e => (ds.prm i np h e).elim, bs.at_, cs.at_, cl⟩ (fun_mk (st := st) lL cL kL) h1 h2 h3 h4 h5 h6 h7 h8⟩
theorem walk {l : PySem.W.OpenLaw} {q : Program} {loose : List Str} {XP : (Str → Option Value) → Heap → Prop} {YP : PySem.World → Heap → Prop} {d : DefRec} {K : Params → PySem.W.Frag} {k : Nat} (hn : l.most = some 63) (hdf : d.params.defaults = []) (hk : Room (k + 0 + 1) callerA)
    (hY : ∀ (w : PySem.World) (h : Heap), YP w h → (K w.params).In h)
    (F : ∀ (w : PySem.World) (mg : Str → Option Value) (fa : Addr) (h : Heap), (K w.params).In h → h.Ns mainGlobals mg → mg d.name = some (.ref fa) →
      ∃ fd : FuncData, (∀ (s : Shared) (u : Value), BindsTo s fd ⟨[u], []⟩ [("script", u)]) ∧ ∀ base : Heap, (K w.params).In base → base.Ns mainGlobals mg → FnOk l.prog w (K w.params) mg base (L2N.CX l.prog w) (k + 0 + 1) fa fd ["script"] (spLaw (K w.params))) :
    PySem.W.WalkO q loose XP YP l.row.toRowW d [] (fun f vs => PySem.call f vs) :=
  L2.walk_of (n := 63) (k := k + 0 + 1) (x := "script") (CX := fun w => L2N.CX l.prog w) (sp := fun w => spLaw (K w.params)) hn (by decide) hdf hk hY F (fun _ _ a ns hl _ hS => ⟨a, ns, rfl, hS, hl, fun _ => rfl⟩)
    fun _ _ _ _ _ h => by
    obtain ⟨_, _, _, _, _, _, _, _, _, _, _, _, z⟩ := h
    exact z.elim
end Mi


set_option Elab.async false
set_option maxRecDepth 10000
/-! Mi18: lemmas for plain work with the evaluator. -/
namespace Mi.Pl
open PySem L2 Mi
theorem call_def {T : List Fn} {i k ps n : Nat} {body : List Mi.S} {ds : List D} {g : Gs} (h : T[i]? = some (.dfn ps n body)) (hl : ds.length = ps) : Mi.call T (k + 1) i ds g = fin (exL (Mi.call T k) body (envOf ds n) g) := by
  unfold Mi.call
  rw [h]
  exact if_pos hl
section
variable {c : CallF} {ρ : Env} {g : Gs}
@[simp] theorem exL_nil : exL c [] ρ g = .nx ρ g := by unfold exL; rfl
@[simp] theorem exL_cons {s : Mi.S} {ss : List Mi.S} : exL c (s :: ss) ρ g = (exS c s ρ g).seq fun ρ g => exL c ss ρ g := by rw [exL]
@[simp] theorem ev_nm {i : Nat} : ev c (.nm i) ρ g = match ρ.get i with
    | some (.val d) => .ok d g
    | _ => .no := by rw [ev] <;> rfl
@[simp] theorem ev_lit {d : D} : ev c (.lit d) ρ g = .ok d g := by rw [ev]
@[simp] theorem ev_tup {es : List E} : ev c (.tup es) ρ g = (evL c es ρ g).bind fun ds g => if ds.length ≤ sizeLine then .ok (.tup ds) g else .no := by rw [ev]
@[simp] theorem ev_lst {es : List E} : ev c (.lst es) ρ g = (evL c es ρ g).bind fun ds g => if ds.length ≤ sizeLine then .ok (.lst ds) g else .no := by rw [ev]
@[simp] theorem ev_op {o : Op} {a b : E} : ev c (.op o a b) ρ g = (brw a ρ g (ev c a ρ g)).bind fun x g => (brw b ρ g (ev c b ρ g)).bind fun y g => R.of (opD o x y) g := by rw [ev]
@[simp] theorem ev_neg {a : E} : ev c (.neg a) ρ g = (ev c a ρ g).bind fun x g => match x with
    | .int i => .ok (.int (-i)) g
    | _ => .no := by rw [ev] <;> rfl
@[simp] theorem ev_cmp {o : Cm} {a b : E} : ev c (.cmp o a b) ρ g = (brw a ρ g (ev c a ρ g)).bind fun x g => (brw b ρ g (ev c b ρ g)).bind fun y g => (R.of (cmpD o x y) g).bind fun k g => .ok (.bl k) g := by rw [ev]
@[simp] theorem ev_chain {o o' : Cm} {a b d : E} : ev c (.chain o o' a b d) ρ g = (ev c a ρ g).bind fun x g => (ev c b ρ g).bind fun y g => (R.of (cmpD o x y) g).bind fun k g =>
      if k = true then (ev c d ρ g).bind fun z g => (R.of (cmpD o' y z) g).bind fun k' g => .ok (.bl k') g else .ok (.bl false) g := by rw [ev]
@[simp] theorem ev_and {a b : E} : ev c (.and a b) ρ g = (ev c a ρ g).bind fun x g => match x with
    | .bl true => ev c b ρ g
    | .bl false => .ok (.bl false) g
    | _ => .no := by rw [ev] <;> rfl
@[simp] theorem ev_or {a b : E} : ev c (.or a b) ρ g = (ev c a ρ g).bind fun x g => match x with
    | .bl true => .ok (.bl true) g
    | .bl false => ev c b ρ g
    | _ => .no := by rw [ev] <;> rfl
@[simp] theorem ev_not {a : E} : ev c (.not a) ρ g = (ev c a ρ g).bind fun x g => match x with
    | .bl k => .ok (.bl (!k)) g
    | _ => .no := by rw [ev] <;> rfl
@[simp] theorem ev_tand {a b : E} : ev c (.tand a b) ρ g = (brw a ρ g (ev c a ρ g)).bind fun x g => match truthG g x with
    | some true => (brw b ρ g (ev c b ρ g)).bind fun y g => (R.of (truthG g y) g).bind fun k g => .ok (.bl k) g
    | some false => .ok (.bl false) g
    | none => .no := by rw [ev] <;> rfl
@[simp] theorem ev_tor {a b : E} : ev c (.tor a b) ρ g = (brw a ρ g (ev c a ρ g)).bind fun x g => match truthG g x with
    | some true => .ok (.bl true) g
    | some false => (brw b ρ g (ev c b ρ g)).bind fun y g => (R.of (truthG g y) g).bind fun k g => .ok (.bl k) g
    | none => .no := by rw [ev] <;> rfl
@[simp] theorem ev_tnot {a : E} : ev c (.tnot a) ρ g = (brw a ρ g (ev c a ρ g)).bind fun x g => (R.of (truthG g x) g).bind fun k g => .ok (.bl (!k)) g := by rw [ev]
@[simp] theorem ev_ite {t a b : E} : ev c (.ite t a b) ρ g = (brw t ρ g (ev c t ρ g)).bind fun x g => match truthG g x with
    | some true => ev c a ρ g
    | some false => ev c b ρ g
    | none => .no := by rw [ev] <;> rfl
@[simp] theorem ev_ix {a b : E} : ev c (.ix a b) ρ g = (brw a ρ g (ev c a ρ g)).bind fun x g => (ev c b ρ g).bind fun y g => R.of (ixG g x y) g := by rw [ev]
@[simp] theorem ev_sl {a lo hi : E} : ev c (.sl a lo hi) ρ g = (brw a ρ g (ev c a ρ g)).bind fun x g => (ev c lo ρ g).bind fun l g => match partD l with
    | some l => (ev c hi ρ g).bind fun h g => match partD h with
      | some h => R.of (slD x l h) g
      | none => .no
    | none => .no := by rw [ev] <;> rfl
@[simp] theorem ev_rev {a : E} : ev c (.rev a) ρ g = (brw a ρ g (ev c a ρ g)).bind fun x g => match x with
    | .lst xs => .ok (.lst xs.reverse) g
    | _ => .no := by rw [ev] <;> rfl
@[simp] theorem ev_part {a : E} : ev c (.part a) ρ g = (ev c a ρ g).bind fun x g => match x with
    | .int i => .ok (.int i) g
    | _ => .no := by rw [ev] <;> rfl
@[simp] theorem ev_pop {a : E} : ev c (.pop a) ρ g = (ev c a ρ g).bind fun x g => match popG g x with
    | some (v, g) => .ok (.int v) g
    | none => .no := by rw [ev] <;> rfl
@[simp] theorem ev_call {f : Nat} {es : List E} : ev c (.call f es) ρ g = (evL c es ρ g).bind fun ds g => c f ds g := by rw [ev]
@[simp] theorem ev_bi {b : BI} {es : List E} : ev c (.bi b es) ρ g = (evB c es ρ g).bind fun ds g => R.of (biG g b ds) g := by rw [ev]
@[simp] theorem ev_isi {a : E} {ts : List Ty} {tp : Bool} : ev c (.isi a ts tp) ρ g = (brw a ρ g (ev c a ρ g)).bind fun x g => (R.of (isiD x ts) g).bind fun k g => .ok (.bl k) g := by rw [ev]
@[simp] theorem evL_nil : evL c [] ρ g = .ok [] g := by rw [evL]
@[simp] theorem evL_cons {e : E} {es : List E} : evL c (e :: es) ρ g = (ev c e ρ g).bind fun d g => (evL c es ρ g).bind fun ds g => .ok (d :: ds) g := by rw [evL]
@[simp] theorem evB_nil : evB c [] ρ g = .ok [] g := by rw [evB]
@[simp] theorem evB_cons {e : E} {es : List E} : evB c (e :: es) ρ g = (brw e ρ g (ev c e ρ g)).bind fun d g => (evB c es ρ g).bind fun ds g => .ok (d :: ds) g := by rw [evB]
@[simp] theorem evI_seq {a : E} : evI c (.iseq a) ρ g = (brw a ρ g (ev c a ρ g)).bind fun x g => R.of (itemsD x) g := by rw [evI]
@[simp] theorem evJ_seq {a : E} : evJ c (.iseq a) ρ g = (ev c a ρ g).bind fun x g => R.of (itemsD x) g := by rw [evJ]
@[simp] theorem brw_nm {i : Nat} {r : R D} : brw (.nm i) ρ g r = match ρ.get i with
    | some (.own ds) => .ok (.lst ds) g
    | _ => r := rfl
@[simp] theorem brw_lit {d : D} {r : R D} : brw (.lit d) ρ g r = r := (rfl)
@[simp] theorem brw_tup {es : List E} {r : R D} : brw (.tup es) ρ g r = r := (rfl)
@[simp] theorem brw_lst {es : List E} {r : R D} : brw (.lst es) ρ g r = r := (rfl)
@[simp] theorem brw_op {o : Op} {a b : E} {r : R D} : brw (.op o a b) ρ g r = r := (rfl)
@[simp] theorem brw_neg {a : E} {r : R D} : brw (.neg a) ρ g r = r := (rfl)
@[simp] theorem brw_cmp {o : Cm} {a b : E} {r : R D} : brw (.cmp o a b) ρ g r = r := (rfl)
@[simp] theorem brw_chain {o o' : Cm} {a b d : E} {r : R D} : brw (.chain o o' a b d) ρ g r = r := (rfl)
@[simp] theorem brw_and {a b : E} {r : R D} : brw (.and a b) ρ g r = r := (rfl)
@[simp] theorem brw_or {a b : E} {r : R D} : brw (.or a b) ρ g r = r := (rfl)
@[simp] theorem brw_not {a : E} {r : R D} : brw (.not a) ρ g r = r := (rfl)
@[simp] theorem brw_tand {a b : E} {r : R D} : brw (.tand a b) ρ g r = r := (rfl)
@[simp] theorem brw_tor {a b : E} {r : R D} : brw (.tor a b) ρ g r = r := (rfl)
@[simp] theorem brw_tnot {a : E} {r : R D} : brw (.tnot a) ρ g r = r := (rfl)
@[simp] theorem brw_ite {t a b : E} {r : R D} : brw (.ite t a b) ρ g r = r := (rfl)
@[simp] theorem brw_ix {a b : E} {r : R D} : brw (.ix a b) ρ g r = r := (rfl)
@[simp] theorem brw_sl {a b d : E} {r : R D} : brw (.sl a b d) ρ g r = r := (rfl)
@[simp] theorem brw_rev {a : E} {r : R D} : brw (.rev a) ρ g r = r := (rfl)
@[simp] theorem brw_pop {a : E} {r : R D} : brw (.pop a) ρ g r = r := (rfl)
@[simp] theorem brw_call {f : Nat} {es : List E} {r : R D} : brw (.call f es) ρ g r = r := (rfl)
@[simp] theorem brw_bi {b : BI} {es : List E} {r : R D} : brw (.bi b es) ρ g r = r := (rfl)
@[simp] theorem brw_isi {a : E} {ts : List Ty} {tp : Bool} {r : R D} : brw (.isi a ts tp) ρ g r = r := (rfl)
@[simp] theorem brw_comp {tg : Tg} {it q e : E} {o : List Nat} {r : R D} : brw (.comp tg it q o e) ρ g r = r := (rfl)
@[simp] theorem brw_comp2 {tg tg2 : Tg} {it it2 e : E} {o o2 : List Nat} {r : R D} : brw (.comp2 tg it tg2 it2 o o2 e) ρ g r = r := (rfl)
@[simp] theorem exS_asg {i : Nat} {e : E} : exS c (.asg i e) ρ g = (ev c e ρ g).st ρ fun d g => .nx (ρ.set i (some (mkCell (isFr e) d))) g := by rw [exS]
@[simp] theorem exS_asgT {l : List Nat} {e : E} : exS c (.asgT l e) ρ g = (ev c e ρ g).st ρ fun d g => match bindTg ρ (.tup l) d with
    | some ρ1 => .nx ρ1 g
    | none => .no := by rw [exS] <;> rfl
@[simp] theorem exS_aug {i : Nat} {o : Op} {e : E} : exS c (.aug i o e) ρ g = match ρ.get i with
    | some (.val x) => (ev c e ρ g).st ρ fun y g => match onInts o x y with
      | some z => .nx (ρ.set i (some (.val z))) g
      | none => .no
    | _ => .no := by rw [exS] <;> rfl
@[simp] theorem exS_app {i : Nat} {e : E} : exS c (.app i e) ρ g = match ρ.get i with
    | some (.own ds) => (ev c e ρ g).st ρ fun y g => if ds.length < sizeLine then .nx (ρ.set i (some (.own (ds ++ [y])))) g else .no
    | _ => .no := by rw [exS] <;> rfl
@[simp] theorem exS_setix {i : Nat} {kk e : E} : exS c (.setix i kk e) ρ g = (ev c e ρ g).st ρ fun y g => match ρ.get i with
    | some (.own ds) => (ev c kk ρ g).st ρ fun z g => match z with
      | .int j => match ixN ds.length j with
        | some j => .nx (ρ.set i (some (.own (ds.set j y)))) g
        | none => .no
      | _ => .no
    | some (.val d) => (ev c kk ρ g).st ρ fun z g => match setG g d z y with
      | some g => .nx ρ g
      | none => .no
    | _ => .no := by rw [exS] <;> rfl
@[simp] theorem exS_expr {e : E} : exS c (.expr e) ρ g = (ev c e ρ g).st ρ fun _ g => .nx ρ g := by rw [exS]
@[simp] theorem exS_ife {t : E} {a b : List Mi.S} : exS c (.ife t a b) ρ g = (brw t ρ g (ev c t ρ g)).st ρ fun x g => match truthG g x with
    | some true => exL c a ρ g
    | some false => exL c b ρ g
    | none => .no := by rw [exS] <;> rfl
@[simp] theorem exS_ret {e : E} : exS c (.ret e) ρ g = (ev c e ρ g).st ρ fun d g => .rt d g := by rw [exS]
@[simp] theorem exS_retN : exS c .retN ρ g = .rt .non g := by rw [exS]
@[simp] theorem exS_brk : exS c .brk ρ g = .bk ρ g := by rw [exS]
@[simp] theorem exS_cnt : exS c .cnt ρ g = .ct ρ g := by rw [exS]
@[simp] theorem exS_pass : exS c .pass ρ g = .nx ρ g := by rw [exS]
@[simp] theorem exS_fz {l : List Nat} {s : Mi.S} : exS c (.fz l s) ρ g = exS c s (freeze ρ l) g := by rw [exS]
theorem exS_try {b : List Mi.S} {r : SR} (h : exL c b ρ g = r) (hr : ∀ e ρ g, r ≠ .ex e ρ g) : exS c (.tryT b) ρ g = r := by
  rw [exS, h]
  cases r with
  | ex e ρ g => exact absurd rfl (hr e ρ g)
  | _ => rfl
@[simp] theorem freeze_nil : freeze ρ [] = ρ := (rfl)
@[simp] theorem freeze_cons {i : Nat} {is : List Nat} : freeze ρ (i :: is) = match ρ.get i with
    | some (.own ds) => freeze (ρ.set i (some (.val (.lst ds)))) is
    | _ => freeze ρ is := by rw [freeze] <;> rfl
@[simp] theorem fin_rt {d : D} : fin (.rt d g) = .ok d g := (rfl)
@[simp] theorem fin_nx : fin (.nx ρ g) = .ok .non g := (rfl)
@[simp] theorem fin_ex {e : Exn} : fin (.ex e ρ g) = .ex e g := (rfl)
@[simp] theorem tG_bl {b : Bool} : truthG g (.bl b) = some b := (rfl)
@[simp] theorem get_0 {x : Option Cell} {r : Env} : Env.get (x :: r) 0 = x := by unfold Env.get; cases x <;> rfl
@[simp] theorem get_s {x : Option Cell} {r : Env} {n : Nat} : Env.get (x :: r) (n + 1) = Env.get r n := by unfold Env.get; rw [List.getElem?_cons_succ]
theorem forL_nil {step : D → Env → Gs → SR} : forL step [] ρ g = .nx ρ g := rfl
theorem forL_cons {step : D → Env → Gs → SR} {x : D} {xs : List D} : forL step (x :: xs) ρ g = (step x ρ g).turn (forL step xs) := rfl
/-- a loop whose turns all go on: the state by number of turns -/
theorem forL_go {step : D → Env → Gs → SR} (ρs : Nat → Env) (gs : Nat → Gs) : ∀ (xs : List D) (i : Nat), (∀ j, (h : j < xs.length) → step xs[j] (ρs (i + j)) (gs (i + j)) = .nx (ρs (i + j + 1)) (gs (i + j + 1))) → forL step xs (ρs i) (gs i) = .nx (ρs (i + xs.length)) (gs (i + xs.length))
  | [], i, _ => rfl
  | x :: xs, i, h => by
    rw [forL_cons]
    have h0 := h 0 (Nat.zero_lt_succ _)
    simp only [List.getElem_cons_zero, Nat.add_zero] at h0
    rw [h0, SR.turn_nx, forL_go ρs gs xs (i + 1) fun j hj => ?_]
    · rw [List.length_cons, Nat.add_assoc, Nat.add_comm 1]
    · have := h (j + 1) (Nat.succ_lt_succ hj)
      simp only [List.getElem_cons_succ] at this
      rw [Nat.add_assoc i 1 j, Nat.add_comm 1 j]
      exact this
theorem rangeD_length (lo : Int) (n : Nat) : (rangeD lo n).length = n := by unfold rangeD; simp
theorem rangeD_get (lo : Int) (n j : Nat) (h : j < (rangeD lo n).length) : (rangeD lo n)[j] = .int (lo + j) := by
  have e : (rangeD lo n)[j]? = some (.int (lo + j)) := by
    have hj : j < n := by rw [rangeD_length] at h; exact h
    unfold rangeD
    simp [hj]
  exact Option.some.inj ((List.getElem?_eq_getElem h).symm.trans e)
theorem rangeD_map (lo : Int) (n : Nat) : rangeD lo n = (List.range n).map fun (k : Nat) => D.int (lo + k) := rfl
/-- a comprehension all of whose turns go on without a change of the draws' list -/
theorem compL_map {α β : Type} {f : D → Gs → R (List α)} (F : β → List α) (h : β → D) : ∀ (xs : List β), (∀ x ∈ xs, f (h x) g = .ok (F x) g) → compL f (xs.map h) g = .ok (xs.flatMap F) g
  | [], _ => rfl
  | x :: xs, hx => by
    rw [List.map_cons]
    unfold compL
    rw [hx x List.mem_cons_self]
    simp only
    rw [compL_map F h xs fun y hy => hx y (List.mem_cons_of_mem _ hy)]
    rfl
end
@[simp] theorem sizeLine_ge {n : Nat} (h : n ≤ 1000000) : n ≤ sizeLine := Nat.le_trans h (by decide)
section
variable {c : CallF} {ρ : Env} {g : Gs}
theorem flatMap_one {α β : Type} (F : α → β) : ∀ xs : List α, (xs.flatMap fun x => [F x]) = xs.map F
  | [] => rfl
  | x :: xs => by rw [List.flatMap_cons, flatMap_one F xs]; rfl
theorem ev_comp_map {β : Type} {tg : Tg} {it elt : E} {own : List Nat} (xs : List β) (h : β → D) (F : β → D) (ρ1 : β → Env) (hi : evI c it ρ g = .ok (xs.map h) g) (hb : ∀ x ∈ xs, bindTg (wipeE ρ own) tg (h x) = some (ρ1 x))
    (he : ∀ x ∈ xs, ev c elt (ρ1 x) g = .ok (F x) g) (hl : xs.length ≤ sizeLine) : ev c (.comp tg it (.lit (.bl true)) own elt) ρ g = .ok (.lst (xs.map F)) g := by
  unfold ev
  rw [hi, R.bind_ok, compL_map (fun x => [F x]) h xs fun x hx => ?_]
  · rw [flatMap_one]
    unfold sized
    simp only [List.length_map]
    rw [if_pos hl]
  · rw [hb x hx]
    simp only
    have e1 : brw (.lit (.bl true)) (ρ1 x) g (ev c (.lit (.bl true)) (ρ1 x) g) = .ok (.bl true) g := by unfold ev; rfl
    rw [e1, R.bind_ok, he x hx]
    rfl
theorem ev_comp_filter {β : Type} {tg : Tg} {it elt cond : E} {own : List Nat} (xs : List β) (h : β → D) (q : β → Bool) (F : β → D) (ρ1 : β → Env) (hi : evI c it ρ g = .ok (xs.map h) g) (hb : ∀ x ∈ xs, bindTg (wipeE ρ own) tg (h x) = some (ρ1 x))
    (hq : ∀ x ∈ xs, brw cond (ρ1 x) g (ev c cond (ρ1 x) g) = .ok (.bl (q x)) g) (he : ∀ x ∈ xs, q x = true → ev c elt (ρ1 x) g = .ok (F x) g) (hl : xs.length ≤ sizeLine) : ev c (.comp tg it cond own elt) ρ g = .ok (.lst ((xs.filter q).map F)) g := by
  unfold ev
  rw [hi, R.bind_ok, compL_map (fun x => if q x = true then [F x] else []) h xs fun x hx => ?_]
  · have e : (xs.flatMap fun x => if q x = true then [F x] else []) = (xs.filter q).map F := by
      clear hi hb hq he hl
      induction xs with
      | nil => rfl
      | cons x xs ih =>
        rw [List.flatMap_cons, ih, List.filter_cons]
        cases q x <;> rfl
    rw [e]
    unfold sized
    simp only [List.length_map]
    rw [if_pos (Nat.le_trans (List.length_filter_le _ _) hl)]
  · rw [hb x hx]
    simp only
    rw [hq x hx, R.bind_ok]
    show oneOrNone (some (q x)) _ g = _
    cases hx2 : q x with
    | true => 
      rw [he x hx hx2]
      rfl
    | false => rfl
theorem compL_flat {α β : Type} {f : D → Gs → R (List α)} (F : β → List α) (h : β → D) (xs : List β) (hx : ∀ x ∈ xs, f (h x) g = .ok (F x) g) : compL f (xs.map h) g = .ok (xs.flatMap F) g := compL_map F h xs hx
theorem ev_comp2_map {β γ : Type} {tg tg2 : Tg} {it it2 elt : E} {own own2 : List Nat} (xs : List β) (h : β → D) (ys : β → List γ) (h2 : γ → D) (F : β → γ → D) (ρ1 : β → Env) (ρ2 : β → γ → Env) (hi : evI c it ρ g = .ok (xs.map h) g)
    (hb : ∀ x ∈ xs, bindTg (wipeE ρ own) tg (h x) = some (ρ1 x)) (hj : ∀ x ∈ xs, evJ c it2 (ρ1 x) g = .ok ((ys x).map h2) g) (hb2 : ∀ x ∈ xs, ∀ y ∈ ys x, bindTg (wipeE (ρ1 x) own2) tg2 (h2 y) = some (ρ2 x y))
    (he : ∀ x ∈ xs, ∀ y ∈ ys x, ev c elt (ρ2 x y) g = .ok (F x y) g) (hl : (xs.flatMap fun x => (ys x).map (F x)).length ≤ sizeLine) : ev c (.comp2 tg it tg2 it2 own own2 elt) ρ g = .ok (.lst (xs.flatMap fun x => (ys x).map (F x))) g := by
  unfold ev
  rw [hi, R.bind_ok, compL_map (fun x => (ys x).map (F x)) h xs fun x hx => ?_]
  · unfold sized
    simp only
    rw [if_pos hl]
  · rw [hb x hx]
    simp only
    rw [hj x hx, R.bind_ok, compL_map (fun y => [F x y]) h2 (ys x) fun y hy => ?_]
    · rw [flatMap_one]
    · rw [hb2 x hx y hy]
      simp only
      rw [he x hx y hy, R.bind_ok]
theorem evI_rng1 {a : E} {n : Nat} (h : ev c a ρ g = .ok (.int n) g) (hn : n ≤ 1000000) : evI c (.irng1 a) ρ g = .ok ((List.range n).map fun (k : Nat) => D.int k) g := by
  have hf : fits (n : Int) = true := by unfold fits; exact decide_eq_true ⟨by omega, by omega⟩
  unfold evI
  rw [h, R.bind_ok]
  simp only
  rw [if_pos hf, Int.toNat_natCast]
  unfold rangeD
  simp
theorem evJ_rng1 {a : E} {n : Nat} (h : ev c a ρ g = .ok (.int n) g) (hn : n ≤ 1000000) : evJ c (.irng1 a) ρ g = .ok ((List.range n).map fun (k : Nat) => D.int k) g := by
  have hf : fits (n : Int) = true := by unfold fits; exact decide_eq_true ⟨by omega, by omega⟩
  unfold evJ
  rw [h, R.bind_ok]
  simp only
  rw [if_pos hf, Int.toNat_natCast]
  unfold rangeD
  simp
end
/-- the slot of a loop's name, behind n turns -/
def lv (f : Nat → D) : Nat → Option Cell
  | 0 => none
  | n + 1 => some (.val (f n))
theorem forS_rng {c : CallF} {i : Nat} {it : E} {body : List Mi.S} {g : Gs} {ρ0 : Env} (n : Nat) (ρs : Nat → Env) (h0 : ρ0 = ρs 0) (hi : evJ c it ρ0 g = .ok ((List.range n).map fun (k : Nat) => D.int k) g)
    (hb : ∀ j, j < n → exL c body ((ρs j).set i (some (.val (.int j)))) g = .nx (ρs (j + 1)) g) : exS c (.forS (.nm i) it body) ρ0 g = .nx (ρs n) g := by
  subst h0
  unfold exS
  rw [hi, R.st_ok]
  have := forL_go (step := fun x ρ g => match bindTg ρ (.nm i) x with
    | some ρ1 => exL c body ρ1 g
    | none => .no) ρs (fun _ => g) ((List.range n).map fun (k : Nat) => D.int k) 0 fun j hj => by
      have hj : j < n := by simpa using hj
      simp only [List.getElem_map, List.getElem_range, Nat.zero_add]
      exact hb j hj
  simp only [List.length_map, List.length_range, Nat.zero_add] at this
  exact this
/-- a loop that may draw -/
theorem forL_inv {step : D → Env → Gs → SR} (I : Nat → Env → Gs → Prop) : ∀ (xs : List D) (i : Nat) (ρ : Env) (g : Gs), I i ρ g → (∀ j, (h : j < xs.length) → ∀ ρ g, I (i + j) ρ g → ∃ ρ' g', step xs[j] ρ g = .nx ρ' g' ∧ I (i + j + 1) ρ' g') → ∃ ρ' g', forL step xs ρ g = .nx ρ' g' ∧ I (i + xs.length) ρ' g'
  | [], i, ρ, g, h0, h => ⟨ρ, g, rfl, h0⟩
  | x :: xs, i, ρ, g, h0, h => by
    obtain ⟨ρ1, g1, e1, h1⟩ := h 0 (Nat.zero_lt_succ _) ρ g h0
    obtain ⟨ρ2, g2, e2, h2⟩ := forL_inv I xs (i + 1) ρ1 g1 h1 fun j hj ρ g hI => by
      have := h (j + 1) (Nat.succ_lt_succ hj) ρ g (by rw [Nat.add_assoc i 1 j, Nat.add_comm 1 j] at hI; exact hI)
      rw [Nat.add_assoc i 1 j, Nat.add_comm 1 j]
      exact this
    refine ⟨ρ2, g2, ?_, ?_⟩
    · rw [forL_cons]
      have e1 : step x ρ g = .nx ρ1 g1 := e1
      rw [e1, SR.turn_nx, e2]
    · rw [List.length_cons, Nat.add_comm xs.length 1, ← Nat.add_assoc]
      exact h2
theorem forS_inv {c : CallF} {i : Nat} {it : E} {body : List Mi.S} {g : Gs} {ρ0 : Env} (n : Nat) (I : Nat → Env → Gs → Prop) (h0 : I 0 ρ0 g) (hi : evJ c it ρ0 g = .ok ((List.range n).map fun (k : Nat) => D.int k) g)
    (hb : ∀ j, j < n → ∀ ρ g, I j ρ g → ∃ ρ' g', exL c body (ρ.set i (some (.val (.int j)))) g = .nx ρ' g' ∧ I (j + 1) ρ' g') : ∃ ρ' g', exS c (.forS (.nm i) it body) ρ0 g = .nx ρ' g' ∧ I n ρ' g' := by
  unfold exS
  rw [hi, R.st_ok]
  obtain ⟨ρ', g', e, h⟩ := forL_inv (step := fun x ρ g => match bindTg ρ (.nm i) x with
    | some ρ1 => exL c body ρ1 g
    | none => .no) I ((List.range n).map fun (k : Nat) => D.int k) 0 ρ0 g h0 fun j hj ρ g hI => by
      have hj : j < n := by simpa using hj
      simp only [List.getElem_map, List.getElem_range, Nat.zero_add] at hI ⊢
      exact hb j hj ρ g hI
  simp only [List.length_map, List.length_range, Nat.zero_add] at h
  exact ⟨ρ', g', e, h⟩
theorem forS_bind {c : CallF} {i : Nat} {it : E} {body : List Mi.S} {g : Gs} {ρ0 : Env} {P : SR → Prop} (n : Nat) (I : Nat → Env → Gs → Prop) (h0 : I 0 ρ0 g) (hi : evJ c it ρ0 g = .ok ((List.range n).map fun (k : Nat) => D.int k) g)
    (hb : ∀ j, j < n → ∀ ρ g, I j ρ g → ∃ ρ' g', exL c body (ρ.set i (some (.val (.int j)))) g = .nx ρ' g' ∧ I (j + 1) ρ' g') (hk : ∀ ρ' g', I n ρ' g' → P (.nx ρ' g')) : P (exS c (.forS (.nm i) it body) ρ0 g) := by
  obtain ⟨ρ', g', e, h⟩ := forS_inv n I h0 hi hb
  rw [e]
  exact hk ρ' g' h
/-- over the items of a list or tuple -/
theorem forS_seq {c : CallF} {i : Nat} {it : E} {body : List Mi.S} {g : Gs} {ρ0 : Env} (xs : List D) (ρs : Nat → Env) (h0 : ρ0 = ρs 0) (hi : evJ c it ρ0 g = .ok xs g)
    (hb : ∀ j, (h : j < xs.length) → exL c body ((ρs j).set i (some (.val xs[j]))) g = .nx (ρs (j + 1)) g) : exS c (.forS (.nm i) it body) ρ0 g = .nx (ρs xs.length) g := by
  subst h0
  unfold exS
  rw [hi, R.st_ok]
  have := forL_go (step := fun x ρ g => match bindTg ρ (.nm i) x with
    | some ρ1 => exL c body ρ1 g
    | none => .no) ρs (fun _ => g) xs 0 fun j hj => by
      simp only [Nat.zero_add]
      exact hb j hj
  simp only [Nat.zero_add] at this
  exact this
theorem whlL_go {fz : List Nat} {test : Env → Gs → R D} {body : Env → Gs → SR} {g : Gs} (ρs : Nat → Env) (n : Nat) (hf : ∀ j, j ≤ n → freeze (ρs j) fz = ρs j) (ht : ∀ j, j < n → test (ρs j) g = .ok (.bl true) g) (hb : ∀ j, j < n → body (ρs j) g = .nx (ρs (j + 1)) g)
    (he : test (ρs n) g = .ok (.bl false) g) : ∀ (m i : Nat), i ≤ n → n < i + m → whlL fz test body m (ρs i) g = .nx (ρs n) g
  | 0, i, h1, h2 => by omega
  | m + 1, i, h1, h2 => by
    rw [whlL, hf i h1]
    by_cases h : i = n
    · subst h
      rw [he]
      rfl
    · have hi : i < n := by omega
      rw [ht i hi]
      show (body (ρs i) g).turn _ = _
      rw [hb i hi, SR.turn_nx]
      exact whlL_go ρs n hf ht hb he m (i + 1) hi (by omega)
theorem exS_whl {c : CallF} {fz : List Nat} {t : E} {body : List Mi.S} {g : Gs} {ρ0 : Env} (n : Nat) (ρs : Nat → Env) (h0 : ρ0 = ρs 0) (hn : n < 1000000) (hf : ∀ j, j ≤ n → freeze (ρs j) fz = ρs j)
    (ht : ∀ j, j < n → brw t (ρs j) g (ev c t (ρs j) g) = .ok (.bl true) g) (hb : ∀ j, j < n → exL c body (ρs j) g = .nx (ρs (j + 1)) g) (he : brw t (ρs n) g (ev c t (ρs n) g) = .ok (.bl false) g) : exS c (.whl fz t body) ρ0 g = .nx (ρs n) g := by
  subst h0
  rw [exS]
  exact whlL_go ρs n hf ht hb he turns 0 (Nat.zero_le _) (by unfold turns; omega)
@[simp] theorem opD_add {a b : Int} : opD .add (.int a) (.int b) = some (.int (a + b)) := (rfl)
@[simp] theorem opD_sub {a b : Int} : opD .sub (.int a) (.int b) = some (.int (a - b)) := (rfl)
@[simp] theorem opD_addT {a b : List D} (h : a.length + b.length ≤ sizeLine) : opD .add (.tup a) (.tup b) = some (.tup (a ++ b)) := if_pos h
@[simp] theorem opD_addL {a b : List D} (h : a.length + b.length ≤ sizeLine) : opD .add (.lst a) (.lst b) = some (.lst (a ++ b)) := if_pos h
theorem log2_lt {b : Int} (h : 0 < b) (h2 : b < 2 ^ 64) : b.natAbs.log2 < 9000 := by
  have h3 : b.natAbs ≠ 0 := by omega
  have h4 : b.natAbs < 2 ^ 64 := by omega
  exact Nat.lt_trans ((Nat.log2_lt h3).mpr h4) (by decide)
@[simp] theorem opD_fdiv {a b : Int} (h : 0 < b) (h2 : b < 18446744073709551616) : opD .fdiv (.int a) (.int b) = some (.int (a / b)) := if_pos ⟨h, log2_lt h h2⟩
@[simp] theorem opD_mod {a b : Int} (h : 0 < b) : opD .mod (.int a) (.int b) = some (.int (a % b)) := if_pos h
@[simp] theorem opD_mulL {a b : Int} (h : smallI a = true) : opD .mul (.int a) (.int b) = some (.int (a * b)) := if_pos (by rw [h]; rfl)
@[simp] theorem opD_mulR {a b : Int} (h : smallI b = true) : opD .mul (.int a) (.int b) = some (.int (a * b)) := if_pos (by rw [h, Bool.or_true])
theorem opD_pow {a b : Int} (h : 0 ≤ b) (h2 : b ≤ 1000000) (h3 : a.natAbs < 2 ^ 64) : opD .pow (.int a) (.int b) = some (.int (a ^ b.toNat)) := if_pos ⟨h, h2, h3⟩
@[simp] theorem opD_mulT {a : List D} {k : Int} (h0 : a ≠ []) (h : 0 ≤ k) (h2 : k ≤ 1000) (h3 : a.length ≤ 1000) : opD .mul (.tup a) (.int k) = some (.tup (List.replicate k.toNat a).flatten) := if_pos ⟨h0, h, h2, h3⟩
@[simp] theorem cmpD_eqI {a b : Int} : cmpD .eq (.int a) (.int b) = some (a == b) := (rfl)
@[simp] theorem cmpD_neI {a b : Int} : cmpD .ne (.int a) (.int b) = some (!(a == b)) := (rfl)
@[simp] theorem cmpD_lt {a b : Int} : cmpD .lt (.int a) (.int b) = some (decide (a < b)) := (rfl)
@[simp] theorem cmpD_le {a b : Int} : cmpD .le (.int a) (.int b) = some (decide (a ≤ b)) := (rfl)
@[simp] theorem cmpD_gt {a b : Int} : cmpD .gt (.int a) (.int b) = some (decide (b < a)) := (rfl)
@[simp] theorem cmpD_ge {a b : Int} : cmpD .ge (.int a) (.int b) = some (decide (b ≤ a)) := (rfl)
@[simp] theorem cmpD_eqS {a b : Str} : cmpD .eq (.str a) (.str b) = some (a == b) := (rfl)
@[simp] theorem cmpD_isN {d : D} : cmpD .isN d .non = some (isNon d) := by cases d <;> rfl
@[simp] theorem cmpD_notN {d : D} : cmpD .notN d .non = some (!isNon d) := by cases d <;> rfl
section
variable {g : Gs}
@[simp] theorem bi_lenT {xs : List D} : biG g .len [.tup xs] = some (.int xs.length) := (rfl)
@[simp] theorem bi_lenL {xs : List D} : biG g .len [.lst xs] = some (.int xs.length) := (rfl)
@[simp] theorem bi_lenS {xs : List Int} : biG g .len [.scr xs] = some (.int xs.length) := (rfl)
@[simp] theorem bi_lenG {i : Nat} {l : List Int} (h : g.ls[i]? = some l) : biG g .len [.sub i] = some (.int l.length) := by
  have e : biS g .len [.sub i] = some (.int l.length) := by unfold biS; simp only [h]
  unfold biG; rw [e]
@[simp] theorem bi_tupT {xs : List D} : biG g .tuple [.tup xs] = some (.tup xs) := (rfl)
@[simp] theorem bi_tupL {xs : List D} : biG g .tuple [.lst xs] = some (.tup xs) := (rfl)
@[simp] theorem bi_lstT {xs : List D} : biG g .list [.tup xs] = some (.lst xs) := (rfl)
@[simp] theorem bi_lstL {xs : List D} : biG g .list [.lst xs] = some (.lst xs) := (rfl)
@[simp] theorem bi_int {i : Int} : biG g .int [.int i] = some (.int i) := (rfl)
@[simp] theorem bi_intB {b : Bool} : biG g .int [.bl b] = some (.int (if b then 1 else 0)) := (rfl)
theorem bi_sum {xs : List D} {ns : List Int} (h : intsD xs = some ns) : biG g .sum [.lst xs] = some (.int ns.sum) := by show (intsD xs).map _ = _; rw [h]; rfl
theorem bi_all {xs : List D} {ns : List Bool} (h : blsD xs = some ns) : biG g .all [.lst xs] = some (.bl (ns.all id)) := by show (blsD xs).map _ = _; rw [h]; rfl
theorem bi_any {xs : List D} {ns : List Bool} (h : blsD xs = some ns) : biG g .any [.lst xs] = some (.bl (ns.any id)) := by show (blsD xs).map _ = _; rw [h]; rfl
@[simp] theorem bi_min {i j : Int} : biG g .min2 [.int i, .int j] = some (.int (if j < i then j else i)) := (rfl)
@[simp] theorem bi_max {i j : Int} : biG g .max2 [.int i, .int j] = some (.int (if j > i then j else i)) := (rfl)
theorem atI_nat {α : Type} (xs : List α) (i : Nat) : atI xs (i : Int) = xs[i]? := by
  unfold atI ixN
  by_cases h : i < xs.length
  · rw [if_pos (by omega), if_pos (by omega)]
    show xs[(i : Int).toNat]? = xs[i]?
    rw [Int.toNat_natCast]
  · rw [if_pos (by omega), if_neg (by omega), List.getElem?_eq_none (by omega)]
    rfl
@[simp] theorem ix_T {xs : List D} {i : Int} : ixG g (.tup xs) (.int i) = atI xs i := (rfl)
@[simp] theorem ix_L {xs : List D} {i : Int} : ixG g (.lst xs) (.int i) = atI xs i := (rfl)
@[simp] theorem atI_0 {α : Type} {x : α} {xs : List α} : atI (x :: xs) 0 = some x := atI_nat (x :: xs) 0
@[simp] theorem atI_1 {α : Type} {x y : α} {xs : List α} : atI (x :: y :: xs) 1 = some y := atI_nat (x :: y :: xs) 1
@[simp] theorem isi_tup {xs : List D} {ts : List Ty} : isiD (.tup xs) ts = some (ts.any fun u => tyOk .tuple u) := (rfl)
@[simp] theorem isi_lst {xs : List D} {ts : List Ty} : isiD (.lst xs) ts = some (ts.any fun u => tyOk .list u) := (rfl)
@[simp] theorem isi_int {i : Int} {ts : List Ty} : isiD (.int i) ts = some (ts.any fun u => tyOk .int u) := (rfl)
@[simp] theorem isi_bl {i : Bool} {ts : List Ty} : isiD (.bl i) ts = some (ts.any fun u => tyOk .bool u) := (rfl)
@[simp] theorem isi_str {i : Str} {ts : List Ty} : isiD (.str i) ts = some (ts.any fun u => tyOk .str u) := (rfl)
@[simp] theorem isi_non {ts : List Ty} : isiD .non ts = some false := (rfl)
end
@[simp] theorem fr_nm {i : Nat} : isFr (.nm i) = false := (rfl)
@[simp] theorem fr_lit {d : D} : isFr (.lit d) = false := (rfl)
@[simp] theorem fr_tup {es : List E} : isFr (.tup es) = false := (rfl)
@[simp] theorem fr_lst {es : List E} : isFr (.lst es) = true := (rfl)
@[simp] theorem fr_op_add {a b : E} : isFr (.op .add a b) = true := (rfl)
@[simp] theorem fr_op_sub {a b : E} : isFr (.op .sub a b) = false := (rfl)
@[simp] theorem fr_op_mul {a b : E} : isFr (.op .mul a b) = true := (rfl)
@[simp] theorem fr_op_fdiv {a b : E} : isFr (.op .fdiv a b) = false := (rfl)
@[simp] theorem fr_op_mod {a b : E} : isFr (.op .mod a b) = false := (rfl)
@[simp] theorem fr_op_pow {a b : E} : isFr (.op .pow a b) = false := (rfl)
@[simp] theorem fr_op_shl {a b : E} : isFr (.op .shl a b) = false := (rfl)
@[simp] theorem fr_op_shr {a b : E} : isFr (.op .shr a b) = false := (rfl)
@[simp] theorem fr_op_band {a b : E} : isFr (.op .band a b) = false := (rfl)
@[simp] theorem fr_op_bor {a b : E} : isFr (.op .bor a b) = false := (rfl)
@[simp] theorem fr_op_bxor {a b : E} : isFr (.op .bxor a b) = false := (rfl)
@[simp] theorem fr_neg {a : E} : isFr (.neg a) = false := (rfl)
@[simp] theorem fr_cmp {o : Cm} {a b : E} : isFr (.cmp o a b) = false := (rfl)
@[simp] theorem fr_chain {o o' : Cm} {a b c : E} : isFr (.chain o o' a b c) = false := (rfl)
@[simp] theorem fr_and {a b : E} : isFr (.and a b) = false := (rfl)
@[simp] theorem fr_or {a b : E} : isFr (.or a b) = false := (rfl)
@[simp] theorem fr_not {a : E} : isFr (.not a) = false := (rfl)
@[simp] theorem fr_tand {a b : E} : isFr (.tand a b) = false := (rfl)
@[simp] theorem fr_tor {a b : E} : isFr (.tor a b) = false := (rfl)
@[simp] theorem fr_tnot {a : E} : isFr (.tnot a) = false := (rfl)
@[simp] theorem fr_ite {t a b : E} : isFr (.ite t a b) = false := (rfl)
@[simp] theorem fr_ix {a b : E} : isFr (.ix a b) = false := (rfl)
@[simp] theorem fr_sl {a lo hi : E} : isFr (.sl a lo hi) = true := (rfl)
@[simp] theorem fr_rev {a : E} : isFr (.rev a) = true := (rfl)
@[simp] theorem fr_part {a : E} : isFr (.part a) = false := (rfl)
@[simp] theorem fr_pop {a : E} : isFr (.pop a) = false := (rfl)
@[simp] theorem fr_call {f : Nat} {es : List E} : isFr (.call f es) = false := (rfl)
@[simp] theorem fr_bi_len {es : List E} : isFr (.bi .len es) = false := (rfl)
@[simp] theorem fr_bi_tuple {es : List E} : isFr (.bi .tuple es) = false := (rfl)
@[simp] theorem fr_bi_list {es : List E} : isFr (.bi .list es) = true := (rfl)
@[simp] theorem fr_bi_int {es : List E} : isFr (.bi .int es) = false := (rfl)
@[simp] theorem fr_bi_sum {es : List E} : isFr (.bi .sum es) = false := (rfl)
@[simp] theorem fr_bi_all {es : List E} : isFr (.bi .all es) = false := (rfl)
@[simp] theorem fr_bi_any {es : List E} : isFr (.bi .any es) = false := (rfl)
@[simp] theorem fr_bi_max2 {es : List E} : isFr (.bi .max2 es) = false := (rfl)
@[simp] theorem fr_bi_min2 {es : List E} : isFr (.bi .min2 es) = false := (rfl)
@[simp] theorem fr_bi_abs {es : List E} : isFr (.bi .abs es) = false := (rfl)
@[simp] theorem fr_isi {a : E} {ts : List Ty} {tp : Bool} : isFr (.isi a ts tp) = false := (rfl)
@[simp] theorem fr_comp {tg : Tg} {it c : E} {ow : List Nat} {e : E} : isFr (.comp tg it c ow e) = true := (rfl)
@[simp] theorem fr_comp2 {tg : Tg} {it : E} {tg2 : Tg} {it2 : E} {ow ow2 : List Nat} {e : E} : isFr (.comp2 tg it tg2 it2 ow ow2 e) = true := (rfl)
@[simp] theorem ty_int_int : tyOk .int .int = true := (rfl)
@[simp] theorem ty_int_bool : tyOk .int .bool = false := (rfl)
@[simp] theorem ty_int_str : tyOk .int .str = false := (rfl)
@[simp] theorem ty_int_list : tyOk .int .list = false := (rfl)
@[simp] theorem ty_int_tuple : tyOk .int .tuple = false := (rfl)
@[simp] theorem ty_bool_int : tyOk .bool .int = true := (rfl)
@[simp] theorem ty_bool_bool : tyOk .bool .bool = true := (rfl)
@[simp] theorem ty_bool_str : tyOk .bool .str = false := (rfl)
@[simp] theorem ty_bool_list : tyOk .bool .list = false := (rfl)
@[simp] theorem ty_bool_tuple : tyOk .bool .tuple = false := (rfl)
@[simp] theorem ty_str_int : tyOk .str .int = false := (rfl)
@[simp] theorem ty_str_bool : tyOk .str .bool = false := (rfl)
@[simp] theorem ty_str_str : tyOk .str .str = true := (rfl)
@[simp] theorem ty_str_list : tyOk .str .list = false := (rfl)
@[simp] theorem ty_str_tuple : tyOk .str .tuple = false := (rfl)
@[simp] theorem ty_list_int : tyOk .list .int = false := (rfl)
@[simp] theorem ty_list_bool : tyOk .list .bool = false := (rfl)
@[simp] theorem ty_list_str : tyOk .list .str = false := (rfl)
@[simp] theorem ty_list_list : tyOk .list .list = true := (rfl)
@[simp] theorem ty_list_tuple : tyOk .list .tuple = false := (rfl)
@[simp] theorem ty_tuple_int : tyOk .tuple .int = false := (rfl)
@[simp] theorem ty_tuple_bool : tyOk .tuple .bool = false := (rfl)
@[simp] theorem ty_tuple_str : tyOk .tuple .str = false := (rfl)
@[simp] theorem ty_tuple_list : tyOk .tuple .list = false := (rfl)
@[simp] theorem ty_tuple_tuple : tyOk .tuple .tuple = true := (rfl)
@[simp] theorem mk_f {d : D} : mkCell false d = .val d := by cases d <;> rfl
@[simp] theorem mk_lst {ds : List D} : mkCell true (.lst ds) = .own ds := (rfl)
@[simp] theorem mk_int {i : Int} : mkCell true (.int i) = .val (.int i) := (rfl)
@[simp] theorem mk_tup {ds : List D} : mkCell true (.tup ds) = .val (.tup ds) := (rfl)
@[simp] theorem mk_str {x : Str} : mkCell true (.str x) = .val (.str x) := (rfl)
@[simp] theorem mk_non : mkCell true .non = .val .non := (rfl)
@[simp] theorem mk_bl {b : Bool} : mkCell true (.bl b) = .val (.bl b) := (rfl)
@[simp] theorem envOf_eq {ds : List D} {n : Nat} : envOf ds n = ds.map (fun d => some (.val d)) ++ List.replicate (n - ds.length) none := (rfl)
@[simp] theorem bind_nm {ρ : Env} {i : Nat} {d : D} : bindTg ρ (.nm i) d = some (ρ.set i (some (.val d))) := (rfl)
@[simp] theorem bind_tup {ρ : Env} {is : List Nat} {ds : List D} : bindTg ρ (.tup is) (.tup ds) = if ds.length = is.length then some (setAll ρ is ds) else none := (rfl)
@[simp] theorem setAll_cons {ρ : Env} {i : Nat} {is : List Nat} {d : D} {ds : List D} : setAll ρ (i :: is) (d :: ds) = setAll (ρ.set i (some (.val d))) is ds := (rfl)
@[simp] theorem setAll_nil {ρ : Env} {ds : List D} : setAll ρ [] ds = ρ := (rfl)
@[simp] theorem wipe_nil {ρ : Env} : wipeE ρ [] = ρ := (rfl)
@[simp] theorem wipe_cons {ρ : Env} {v : Nat} {vs : List Nat} : wipeE ρ (v :: vs) = (wipeE ρ vs).set v none := (rfl)
theorem cutD_take {α : Type} (xs : List α) (n : Nat) : cutD xs none (some (n : Int)) = xs.take n := by
  unfold cutD
  rw [HT.sIx_nat, HT.sIx_none, Nat.sub_zero, List.drop_zero]
  by_cases h : n ≤ xs.length
  · rw [Nat.min_eq_left h]
  · rw [Nat.min_eq_right (by omega), List.take_length, List.take_of_length_le (by omega)]
theorem cutD_takeI {α : Type} (xs : List α) (n : Int) (h : 0 ≤ n) : cutD xs none (some n) = xs.take n.toNat := by
  have := cutD_take xs n.toNat
  rwa [Int.toNat_of_nonneg h] at this
/-- one of several -/
theorem pick {xs : List D} {w : Int} (h0 : 0 ≤ w) (h1 : w < (xs.length : Int)) (P : D → Prop) (h : ∀ x ∈ xs, P x) : ∃ d, atI xs w = some d ∧ P d := by
  obtain ⟨n, rfl⟩ := Int.eq_ofNat_of_zero_le h0
  have h4 : n < xs.length := by omega
  exact ⟨xs[n], by rw [Mi.Pl.atI_nat, List.getElem?_eq_getElem h4], h _ (List.getElem_mem h4)⟩
theorem compL_st {f : D → Gs → R (List D)} (I : Gs → Prop) (P : D → Prop) : ∀ (xs : List D) (g : Gs), I g → (∀ x ∈ xs, ∀ g, I g → ∃ d g', f x g = .ok [d] g' ∧ P d ∧ I g') → ∃ ds g', compL f xs g = .ok ds g' ∧ ds.length = xs.length ∧ (∀ d ∈ ds, P d) ∧ I g'
  | [], g, h0, _ => ⟨[], g, rfl, rfl, by simp, h0⟩
  | x :: xs, g, h0, h => by
    obtain ⟨d, g1, e1, p1, i1⟩ := h x List.mem_cons_self g h0
    obtain ⟨ds, g2, e2, l2, p2, i2⟩ := compL_st I P xs g1 i1 fun y hy => h y (List.mem_cons_of_mem _ hy)
    refine ⟨d :: ds, g2, ?_, by simp [l2], ?_, i2⟩
    · unfold compL
      rw [e1]
      simp only
      rw [e2]
      rfl
    · intro y hy
      rcases List.mem_cons.mp hy with e | e
      · exact e ▸ p1
      · exact p2 y e
theorem ev_comp_st {c : CallF} {ρ : Env} {g : Gs} {tg : Tg} {it elt : E} {own : List Nat} (I : Gs → Prop) (P : D → Prop) (xs : List D) (ρ1 : D → Env) (h0 : I g) (hi : evI c it ρ g = .ok xs g) (hb : ∀ x ∈ xs, bindTg (wipeE ρ own) tg x = some (ρ1 x))
    (he : ∀ x ∈ xs, ∀ g, I g → ∃ d g', ev c elt (ρ1 x) g = .ok d g' ∧ P d ∧ I g') (hl : xs.length ≤ sizeLine) : ∃ ds g', ev c (.comp tg it (.lit (.bl true)) own elt) ρ g = .ok (.lst ds) g' ∧ ds.length = xs.length ∧ (∀ d ∈ ds, P d) ∧ I g' := by
  unfold ev
  rw [hi, R.bind_ok]
  obtain ⟨ds, g', e, l, p, i⟩ := compL_st (f := fun x g => match bindTg (wipeE ρ own) tg x with
      | some ρ1 => (brw (.lit (.bl true)) ρ1 g (ev c (.lit (.bl true)) ρ1 g)).bind fun k g => oneOrNone (truthG g k) (ev c elt ρ1 g) g
      | none => .no) I P xs g h0 fun x hx g hg => by
    obtain ⟨d, g', e, p, i⟩ := he x hx g hg
    refine ⟨d, g', ?_, p, i⟩
    rw [hb x hx]
    simp only
    have e1 : brw (.lit (.bl true)) (ρ1 x) g (ev c (.lit (.bl true)) (ρ1 x) g) = .ok (.bl true) g := by unfold ev; rfl
    rw [e1, R.bind_ok, e]
    rfl
  refine ⟨ds, g', (congrArg sized e).trans ?_, l, p, i⟩
  unfold sized
  simp only
  rw [if_pos (by rw [l]; exact hl)]
theorem fits_of {i : Int} (h1 : -(2 ^ 62) ≤ i) (h2 : i < 2 ^ 62) : fits i = true := by unfold fits; exact decide_eq_true ⟨h1, h2⟩
theorem fits_nat {n : Nat} (h : n < 2 ^ 62) : fits (n : Int) = true := fits_of (by omega) (by omega)
theorem smallI_of {i : Int} (h1 : -(2 ^ 64) < i) (h2 : i < 2 ^ 64) : smallI i = true := by unfold smallI; exact decide_eq_true ⟨h1, h2⟩
end Mi.Pl


set_option Elab.async false
set_option maxRecDepth 10000
/-! Mi19: lemmas for plain work: errors raised and caught. -/
namespace Mi.Pl
open PySem L2 Mi
section
variable {c : CallF} {ρ : Mi.Env} {g : Gs}
@[simp] theorem exS_raise {k : Nat} {es : List E} : exS c (.raise k es) ρ g = (evL c es ρ g).st ρ fun ds g => if ds.length = (exFs k).length then .ex ⟨k, ds⟩ ρ g else .no := by rw [exS]
@[simp] theorem exS_tryX {b h : List Mi.S} {k i : Nat} : exS c (.tryX b k i h) ρ g = (exL c b ρ g).caught k fun e ρ g => (exL c h (ρ.set i (some (.val (.exn e.cls e.fs)))) g).out i := by rw [exS]
theorem bi_str {i : Int} (h : smallI i = true) : biG g .str [.int i] = some (.str (strI i)) := by
  show (if smallI i = true then some (D.str (strI i)) else none) = _
  rw [if_pos h]
theorem cutD_drop {α : Type} (xs : List α) (n : Nat) : cutD xs (some (n : Int)) none = xs.drop n := by
  unfold cutD
  rw [HT.sIx_nat, HT.sIx_none]
  by_cases h : n ≤ xs.length
  · rw [Nat.min_eq_left h]
    exact List.take_of_length_le (by rw [List.length_drop]; omega)
  · rw [Nat.min_eq_right (by omega), List.drop_length, List.drop_of_length_le (by omega), List.take_nil]
theorem try_ex {b h : List Mi.S} {k i : Nat} {e : Exn} {ρ1 : Mi.Env} {g1 : Gs} {r : SR} (hb : exL c b ρ g = .ex e ρ1 g1) (hs : isSub e.cls k = true) (hh : (exL c h (ρ1.set i (some (.val (.exn e.cls e.fs)))) g1).out i = r) : exS c (.tryX b k i h) ρ g = r := by
  rw [exS, hb, SR.caught_ex, if_pos hs, hh]
@[simp] theorem ev_isx {a : E} {k : Nat} : ev c (.isx a k) ρ g = (ev c a ρ g).bind fun x g => (R.of (isxD x k) g).bind fun b g => .ok (.bl b) g := by rw [ev]
@[simp] theorem ev_fld {a : E} {f : Str} : ev c (.fld a f) ρ g = (ev c a ρ g).bind fun x g => R.of (fldD x f) g := by rw [ev]
@[simp] theorem ev_lend {l : List Nat} {e : E} : ev c (.lend l e) ρ g = lent (ev c e (freeze ρ l) g) := by rw [ev]
@[simp] theorem brw_isx {a : E} {k : Nat} {r : R D} : brw (.isx a k) ρ g r = r := (rfl)
@[simp] theorem brw_fld {a : E} {f : Str} {r : R D} : brw (.fld a f) ρ g r = r := (rfl)
@[simp] theorem brw_lend {l : List Nat} {e : E} {r : R D} : brw (.lend l e) ρ g r = r := (rfl)
@[simp] theorem fr_isx {a : E} {k : Nat} : isFr (.isx a k) = false := (rfl)
@[simp] theorem fr_fld {a : E} {f : Str} : isFr (.fld a f) = false := (rfl)
@[simp] theorem fr_lend {l : List Nat} {e : E} : isFr (.lend l e) = false := (rfl)
@[simp] theorem isx_exn {c k : Nat} {fs : List D} : isxD (.exn c fs) k = some (isSub c k) := (rfl)
@[simp] theorem fld_exn {c : Nat} {fs : List D} {f : Str} : fldD (.exn c fs) f = ((exFs c).zip fs).lookup f := (rfl)
theorem lent_ok {d : D} (h : d.fast = true) : lent (.ok d g) = .ok d g := by
  show (if d.fast = true then R.ok d g else .no) = _
  rw [if_pos h]
@[simp] theorem fsl0 : exFs 0 = (["shape"] : List Str) := (rfl)
@[simp] theorem fsl1 : exFs 1 = (["packet"] : List Str) := (rfl)
@[simp] theorem fsl2 : exFs 2 = (["number"] : List Str) := (rfl)
@[simp] theorem fsl3 : exFs 3 = (["value"] : List Str) := (rfl)
@[simp] theorem fsl4 : exFs 4 = (["place"] : List Str) := (rfl)
@[simp] theorem fsl5 : exFs 5 = (["place"] : List Str) := (rfl)
@[simp] theorem fsl6 : exFs 6 = (["place"] : List Str) := (rfl)
@[simp] theorem fsl7 : exFs 7 = (["place"] : List Str) := (rfl)
@[simp] theorem fsl8 : exFs 8 = (["place"] : List Str) := (rfl)
@[simp] theorem fsl9 : exFs 9 = (["what"] : List Str) := (rfl)
@[simp] theorem fsl10 : exFs 10 = (["what"] : List Str) := (rfl)
@[simp] theorem fsl11 : exFs 11 = (["what"] : List Str) := (rfl)
@[simp] theorem fsl12 : exFs 12 = (["what", "packet"] : List Str) := (rfl)
end
end Mi.Pl
namespace Mi.Pl
open PySem L2 Mi
/-- over the items, whatever is drawn -/
theorem forS_items {c : CallF} {i : Nat} {it : E} {body : List Mi.S} {g g1 : Gs} {ρ0 : Mi.Env} (xs : List D) (I : Nat → Mi.Env → Gs → Prop) (h0 : I 0 ρ0 g1) (hi : evJ c it ρ0 g = .ok xs g1)
    (hb : ∀ j, (h : j < xs.length) → ∀ ρ g, I j ρ g → ∃ ρ' g', exL c body (ρ.set i (some (.val xs[j]))) g = .nx ρ' g' ∧ I (j + 1) ρ' g') : ∃ ρ' g', exS c (.forS (.nm i) it body) ρ0 g = .nx ρ' g' ∧ I xs.length ρ' g' := by
  unfold exS
  rw [hi, R.st_ok]
  obtain ⟨ρ', g', e, h⟩ := forL_inv (step := fun x ρ g => match bindTg ρ (.nm i) x with
    | some ρ1 => exL c body ρ1 g
    | none => .no) I xs 0 ρ0 g1 h0 fun j hj ρ g hI => by
      simp only [Nat.zero_add] at hI ⊢
      exact hb j hj ρ g hI
  rw [Nat.zero_add] at h
  exact ⟨ρ', g', e, h⟩
end Mi.Pl
namespace Mi.Pl
open PySem L2 Mi
theorem exL_app {c : CallF} : ∀ {a b : List Mi.S} {ρ : Mi.Env} {g : Gs}, exL c (a ++ b) ρ g = (exL c a ρ g).seq fun ρ g => exL c b ρ g
  | [], b, ρ, g => by rw [List.nil_append, exL_nil, SR.seq_nx]
  | s :: a, b, ρ, g => by
    rw [List.cons_append, exL_cons, exL_cons]
    cases exS c s ρ g with
    | nx ρ1 g1 => rw [SR.seq_nx, SR.seq_nx, exL_app]
    | _ => rfl
/-- the first n rows, then the rest -/
theorem exL_split {c : CallF} {l : List Mi.S} (n : Nat) {ρ ρ1 : Mi.Env} {g g1 : Gs} (h : exL c (l.take n) ρ g = .nx ρ1 g1) : exL c l ρ g = exL c (l.drop n) ρ1 g1 := by
  have e := exL_app (c := c) (a := l.take n) (b := l.drop n) (ρ := ρ) (g := g)
  rw [List.take_append_drop, h, SR.seq_nx] at e
  exact e
end Mi.Pl


set_option Elab.async false
set_option maxRecDepth 100000
set_option maxHeartbeats 0
namespace K01
open PySem L2 Mi
def topS (i : Nat) : Stmt := PySem.Challenge.pw_packetoaths_k01_shapes_and_packets_refus.main.body.getD i (.Pass ⟨0, 0, 0, 0⟩)
def fns : List (Str × Nat) := [(("is_from_to" : Str), 3), (("is_row" : Str), 1), (("check_number" : Str), 3), (("checked_shape" : Str), 1), (("power_of" : Str), 2), (("is_packet" : Str), 2), (("checked_packet" : Str), 2), (("count_all" : Str), 1), (("of_length" : Str), 2), (("check_few" : Str), 1), (("listed" : Str), 1), (("count_packets" : Str), 1), (("all_packets" : Str), 1), (("packet_of" : Str), 2), (("number_of" : Str), 2), (("next_packet" : Str), 2), (("cut_packet" : Str), 3), (("_law_kinds" : Str), 1), (("_law_kept" : Str), 2), (("_law_same" : Str), 2), (("_law_told" : Str), 2), (("_law_raised" : Str), 3), (("_law_start" : Str), 1), (("_law_draw" : Str), 2), (("_law_ask" : Str), 4), (("_law_count" : Str), 1), (("_law_wrong_shape" : Str), 2), (("_law_packet" : Str), 2), (("_law_wrong_packet" : Str), 3), (("_law_wrong_number" : Str), 2), (("_law_refusals_stand" : Str), 3), (("_law_bounds_stand" : Str), 3), (("_law_packet_at" : Str), 2), (("_law_twins_stand" : Str), 1), (("_law_many_stands" : Str), 1)]
def con : List (Str × Int) := [("LEAST_BASE", 2), ("MOST_BASE", 256), ("MOST_LENGTH", 12), ("MOST_PACKETS", 5000)]
def tp : Tp := ⟨fns, con, [17, 18], [0, 1, 2, 3, 4, 5, 6, 7, 8, 9, 10, 11, 12]⟩
def b_is_from_to : List Mi.S := [
  .ret (.and (.isi (.nm 0) [.int] false) (.and (.not (.isi (.nm 0) [.bool] false)) (.chain .le .le (.nm 1) (.nm 0) (.nm 2))))]
def b_is_row : List Mi.S := [
  .ret (.isi (.nm 0) [.list, .tuple] true)]
def b_check_number : List Mi.S := [
  .ife (.tnot (.call 0 [(.nm 0), (.nm 1), (.nm 2)])) [
    .raise 2 [(.nm 0)]] []]
def b_checked_shape : List Mi.S := [
  .ife (.tor (.tnot (.call 1 [(.nm 0)])) (.cmp .ne (.bi .len [(.nm 0)]) (.lit (.int 2)))) [
    .raise 0 [(.nm 0)]] [],
  .ife (.tor (.tnot (.call 0 [(.ix (.nm 0) (.lit (.int 0))), (.lit (.int 2)), (.lit (.int 256))])) (.tnot (.call 0 [(.ix (.nm 0) (.lit (.int 1))), (.lit (.int 0)), (.lit (.int 12))]))) [
    .raise 0 [(.nm 0)]] [],
  .ret (.tup [(.ix (.nm 0) (.lit (.int 0))), (.ix (.nm 0) (.lit (.int 1)))])]
def b_power_of : List Mi.S := [
  .asg 2 (.lit (.int 1)),
  .forS (.nm 3) (.irng1 (.nm 1)) [
    .asg 2 (.op .mul (.nm 2) (.nm 0))],
  .ret (.nm 2)]
def b_is_packet : List Mi.S := [
  .asgT [2, 3] (.nm 0),
  .ife (.tor (.tnot (.isi (.nm 1) [.tuple] false)) (.cmp .gt (.bi .len [(.nm 1)]) (.nm 3))) [
    .ret (.lit (.bl false))] [],
  .ret (.bi .all [(.comp (.nm 4) (.iseq (.nm 1)) (.lit (.bl true)) [4] (.call 0 [(.nm 4), (.lit (.int 0)), (.op .sub (.nm 2) (.lit (.int 1)))]))])]
def b_checked_packet : List Mi.S := [
  .ife (.tor (.tnot (.call 1 [(.nm 1)])) (.tnot (.call 5 [(.nm 0), (.bi .tuple [(.nm 1)])]))) [
    .raise 1 [(.nm 1)]] [],
  .ret (.bi .tuple [(.nm 1)])]
def b_count_all : List Mi.S := [
  .asgT [1, 2] (.nm 0),
  .ret (.bi .sum [(.comp (.nm 3) (.irng1 (.op .add (.nm 2) (.lit (.int 1)))) (.lit (.bl true)) [3] (.call 4 [(.nm 1), (.nm 3)]))])]
def b_of_length : List Mi.S := [
  .asg 2 (.lst [(.tup [])]),
  .forS (.nm 3) (.irng1 (.nm 1)) [
    .asg 2 (.comp2 (.nm 4) (.iseq (.nm 2)) (.nm 5) (.irng1 (.nm 0)) [4, 5] [5] (.op .add (.nm 4) (.tup [(.nm 5)])))],
  .fz [2] (.ret (.nm 2))]
def b_check_few : List Mi.S := [
  .ife (.cmp .gt (.call 7 [(.nm 0)]) (.lit (.int 5000))) [
    .raise 9 [(.lit (.str "packets"))]] []]
def b_listed : List Mi.S := [
  .expr (.call 9 [(.nm 0)]),
  .asgT [1, 2] (.nm 0),
  .ret (.comp2 (.nm 3) (.irng1 (.op .add (.nm 2) (.lit (.int 1)))) (.nm 4) (.iseq (.call 8 [(.nm 1), (.nm 3)])) [3, 4] [4] (.nm 4))]
def b_count_packets : List Mi.S := [
  .ret (.call 7 [(.call 3 [(.nm 0)])])]
def b_all_packets : List Mi.S := [
  .ret (.bi .tuple [(.call 10 [(.call 3 [(.nm 0)])])])]
def b_packet_of : List Mi.S := [
  .asgT [2, 3] (.call 3 [(.nm 0)]),
  .expr (.call 2 [(.nm 1), (.lit (.int 0)), (.op .sub (.call 7 [(.tup [(.nm 2), (.nm 3)])]) (.lit (.int 1)))]),
  .asg 4 (.lit (.int 0)),
  .whl [] (.cmp .ge (.nm 1) (.call 4 [(.nm 2), (.nm 4)])) [
    .aug 1 .sub (.call 4 [(.nm 2), (.nm 4)]),
    .aug 4 .add (.lit (.int 1))],
  .asg 5 (.lst []),
  .forS (.nm 6) (.irng1 (.nm 4)) [
    .app 5 (.op .mod (.nm 1) (.nm 2)),
    .asg 1 (.op .fdiv (.nm 1) (.nm 2))],
  .ret (.bi .tuple [(.rev (.nm 5))])]
def b_number_of : List Mi.S := [
  .asg 2 (.call 3 [(.nm 0)]),
  .asgT [3, 4] (.nm 2),
  .asg 5 (.call 6 [(.nm 2), (.nm 1)]),
  .asg 6 (.lit (.int 0)),
  .forS (.nm 7) (.iseq (.nm 5)) [
    .asg 6 (.op .add (.op .mul (.nm 6) (.nm 3)) (.nm 7))],
  .ret (.op .add (.nm 6) (.bi .sum [(.comp (.nm 8) (.irng1 (.bi .len [(.nm 5)])) (.lit (.bl true)) [8] (.call 4 [(.nm 3), (.nm 8)]))]))]
def b_next_packet : List Mi.S := [
  .asg 2 (.call 3 [(.nm 0)]),
  .asg 3 (.op .add (.call 14 [(.nm 2), (.nm 1)]) (.lit (.int 1))),
  .ret (.ite (.cmp .lt (.nm 3) (.call 7 [(.nm 2)])) (.call 13 [(.nm 2), (.nm 3)]) (.lit .non))]
def b_cut_packet : List Mi.S := [
  .asg 3 (.call 3 [(.nm 0)]),
  .asg 4 (.call 6 [(.nm 3), (.nm 1)]),
  .expr (.call 2 [(.nm 2), (.lit (.int 0)), (.bi .len [(.nm 4)])]),
  .ret (.sl (.nm 4) (.lit .non) (.part (.nm 2)))]
def b_law_kinds : List Mi.S := [
  .asg 1 (.lst []),
  .ife (.isx (.nm 0) 0) [
    .app 1 (.lit (.str "shape"))] [],
  .ife (.isx (.nm 0) 1) [
    .app 1 (.lit (.str "packet"))] [],
  .ife (.isx (.nm 0) 2) [
    .app 1 (.lit (.str "number"))] [],
  .ife (.isx (.nm 0) 3) [
    .app 1 (.lit (.str "value"))] [],
  .ife (.isx (.nm 0) 4) [
    .app 1 (.lit (.str "program"))] [],
  .ife (.isx (.nm 0) 5) [
    .app 1 (.lit (.str "source"))] [],
  .ife (.isx (.nm 0) 6) [
    .app 1 (.lit (.str "rules"))] [],
  .ife (.isx (.nm 0) 7) [
    .app 1 (.lit (.str "text"))] [],
  .ife (.isx (.nm 0) 8) [
    .app 1 (.lit (.str "line"))] [],
  .ife (.isx (.nm 0) 12) [
    .app 1 (.lit (.str "refused"))] [],
  .ife (.isx (.nm 0) 9) [
    .app 1 (.lit (.str "many"))] [],
  .ife (.isx (.nm 0) 10) [
    .app 1 (.lit (.str "undefined"))] [],
  .ife (.isx (.nm 0) 11) [
    .app 1 (.lit (.str "nothing"))] [],
  .ife (.tnot (.isx (.nm 0) 101)) [
    .app 1 (.lit (.str "no ValueError"))] [],
  .fz [1] (.ret (.nm 1))]
def b_law_kept : List Mi.S := [
  .ife (.cmp .eq (.nm 1) (.lit (.str "shape"))) [
    .ret (.fld (.nm 0) "shape")] [],
  .ife (.cmp .eq (.nm 1) (.lit (.str "packet"))) [
    .ret (.fld (.nm 0) "packet")] [],
  .ife (.cmp .eq (.nm 1) (.lit (.str "number"))) [
    .ret (.fld (.nm 0) "number")] [],
  .ife (.cmp .eq (.nm 1) (.lit (.str "value"))) [
    .ret (.fld (.nm 0) "value")] [],
  .ife (.cmp .mem (.nm 1) (.tup [(.lit (.str "program")), (.lit (.str "source")), (.lit (.str "rules")), (.lit (.str "text")), (.lit (.str "line"))])) [
    .ret (.fld (.nm 0) "place")] [],
  .ife (.cmp .eq (.nm 1) (.lit (.str "refused"))) [
    .ret (.tup [(.fld (.nm 0) "what"), (.fld (.nm 0) "packet")])] [],
  .ret (.fld (.nm 0) "what")]
def b_law_same : List Mi.S := [
  .ife (.isi (.nm 1) [.tuple, .list] true) [
    .ife (.tor (.tand (.isi (.nm 1) [.tuple] false) (.tnot (.isi (.nm 0) [.tuple] false))) (.tnot (.isi (.nm 0) [.tuple, .list] true))) [
      .ret (.lit (.bl false))] [],
    .ife (.tor (.tand (.isi (.nm 1) [.list] false) (.tnot (.isi (.nm 0) [.list] false))) (.cmp .ne (.bi .len [(.nm 0)]) (.bi .len [(.nm 1)]))) [
      .ret (.lit (.bl false))] [],
    .forS (.nm 2) (.irng1 (.bi .len [(.nm 1)])) [
      .ife (.tnot (.call 19 [(.ix (.nm 0) (.nm 2)), (.ix (.nm 1) (.nm 2))])) [
        .ret (.lit (.bl false))] []],
    .ret (.lit (.bl true))] [],
  .ife (.isi (.nm 1) [.bool] false) [
    .ret (.and (.isi (.nm 0) [.bool] false) (.cmp .eq (.nm 0) (.nm 1)))] [],
  .ife (.isi (.nm 1) [.int] false) [
    .ret (.and (.isi (.nm 0) [.int] false) (.and (.not (.isi (.nm 0) [.bool] false)) (.cmp .eq (.nm 0) (.nm 1))))] [],
  .ife (.isi (.nm 1) [.str] false) [
    .ret (.and (.isi (.nm 0) [.str] false) (.cmp .eq (.nm 0) (.nm 1)))] [],
  .ret (.cmp .isN (.nm 0) (.lit .non))]
def b_law_told : List Mi.S := [
  .ret (.and (.cmp .eq (.ix (.nm 0) (.lit (.int 0))) (.lit (.str "told"))) (.call 19 [(.ix (.nm 0) (.lit (.int 1))), (.nm 1)]))]
def b_law_raised : List Mi.S := [
  .ret (.and (.cmp .eq (.ix (.nm 0) (.lit (.int 0))) (.lit (.str "raised"))) (.and (.cmp .eq (.ix (.nm 0) (.lit (.int 1))) (.lst [(.nm 1)])) (.call 19 [(.ix (.nm 0) (.lit (.int 2))), (.nm 2)])))]
def b_law_start : List Mi.S := [
  .asg 1 (.comp (.nm 3) (.iseq (.sl (.nm 0) (.lit .non) (.part (.lit (.int 63))))) (.lit (.bl true)) [3] (.bi .int [(.nm 3)])),
  .asg 2 (.comp (.nm 3) (.iseq (.nm 1)) (.cmp .ge (.nm 3) (.op .pow (.lit (.int 10)) (.lit (.int 18)))) [3] (.nm 3)),
  .ife (.cmp .eq (.op .mod (.bi .int [(.bi .sum [(.nm 1)])]) (.lit (.int 2))) (.lit (.int 1))) [
    .asg 2 (.lst [])] [],
  .fz [2] (.ret (.lst [(.op .add (.nm 1) (.lst [(.bi .len [(.nm 1)])])), (.lit (.int 0)), (.lit (.int 1234567890123456789)), (.nm 2), (.lit (.int 0)), (.lit (.int 0))]))]
def b_law_draw : List Mi.S := [
  .ife (.tand (.cmp .eq (.ix (.nm 0) (.lit (.int 4))) (.lit (.int 0))) (.cmp .gt (.bi .len [(.ix (.nm 0) (.lit (.int 3)))]) (.lit (.int 0)))) [
    .setix 0 (.lit (.int 4)) (.pop (.ix (.nm 0) (.lit (.int 3)))),
    .setix 0 (.lit (.int 5)) (.lit (.int 60))] [],
  .ife (.cmp .gt (.ix (.nm 0) (.lit (.int 4))) (.lit (.int 0))) [
    .asg 2 (.op .mod (.bi .int [(.ix (.nm 0) (.lit (.int 4)))]) (.nm 1)),
    .setix 0 (.lit (.int 5)) (.op .sub (.ix (.nm 0) (.lit (.int 5))) (.lit (.int 1))),
    .setix 0 (.lit (.int 4)) (.ite (.cmp .gt (.ix (.nm 0) (.lit (.int 5))) (.lit (.int 0))) (.op .fdiv (.ix (.nm 0) (.lit (.int 4))) (.nm 1)) (.lit (.int 0))),
    .ret (.nm 2)] [],
  .setix 0 (.lit (.int 1)) (.op .add (.ix (.nm 0) (.lit (.int 1))) (.lit (.int 1))),
  .asg 3 (.ix (.ix (.nm 0) (.lit (.int 0))) (.op .mod (.bi .int [(.ix (.nm 0) (.lit (.int 1)))]) (.bi .len [(.ix (.nm 0) (.lit (.int 0)))]))),
  .setix 0 (.lit (.int 2)) (.op .mod (.bi .int [(.op .add (.op .add (.op .mul (.ix (.nm 0) (.lit (.int 2))) (.ix (.nm 0) (.lit (.int 2)))) (.nm 3)) (.ix (.nm 0) (.lit (.int 1))))]) (.lit (.int 2305843009213693951))),
  .ret (.op .mod (.bi .int [(.op .fdiv (.ix (.nm 0) (.lit (.int 2))) (.lit (.int 1048576)))]) (.nm 1))]
def b_law_ask : List Mi.S := [
  .tryX [
    .ife (.cmp .eq (.nm 0) (.lit (.str "count_packets"))) [
      .ret (.tup [(.lit (.str "told")), (.call 11 [(.nm 1)])])] [],
    .ife (.cmp .eq (.nm 0) (.lit (.str "all_packets"))) [
      .ret (.tup [(.lit (.str "told")), (.call 12 [(.nm 1)])])] [],
    .ife (.cmp .eq (.nm 0) (.lit (.str "packet_of"))) [
      .ret (.tup [(.lit (.str "told")), (.call 13 [(.nm 1), (.nm 2)])])] [],
    .ife (.cmp .eq (.nm 0) (.lit (.str "number_of"))) [
      .ret (.tup [(.lit (.str "told")), (.call 14 [(.nm 1), (.nm 2)])])] [],
    .ife (.cmp .eq (.nm 0) (.lit (.str "next_packet"))) [
      .ret (.tup [(.lit (.str "told")), (.call 15 [(.nm 1), (.nm 2)])])] [],
    .ret (.tup [(.lit (.str "told")), (.call 16 [(.nm 1), (.nm 2), (.nm 3)])])] 100 4 [
    .asg 5 (.call 17 [(.nm 4)]),
    .ret (.tup [(.lit (.str "raised")), (.nm 5), (.ite (.cmp .eq (.bi .len [(.nm 5)]) (.lit (.int 1))) (.call 18 [(.nm 4), (.ix (.nm 5) (.lit (.int 0)))]) (.lit .non))])]]
def b_law_count : List Mi.S := [
  .asg 1 (.lit (.int 1)),
  .asg 2 (.lit (.int 1)),
  .forS (.nm 3) (.irng1 (.ix (.nm 0) (.lit (.int 1)))) [
    .asg 2 (.op .mul (.nm 2) (.ix (.nm 0) (.lit (.int 0)))),
    .asg 1 (.op .add (.nm 1) (.nm 2))],
  .ret (.nm 1)]
def b_law_wrong_shape : List Mi.S := [
  .asgT [2, 3] (.nm 1),
  .asg 4 (.lst [(.tup [(.lit (.int 1)), (.nm 3)]), (.tup [(.lit (.int 0)), (.nm 3)]), (.tup [(.lit (.int 257)), (.nm 3)]), (.tup [(.neg (.lit (.int 2))), (.nm 3)]), (.tup [(.lit (.bl true)), (.nm 3)]), (.tup [(.lit .non), (.nm 3)]), (.tup [(.bi .str [(.nm 2)]), (.nm 3)]), (.tup [(.tup [(.nm 2)]), (.nm 3)]), (.tup [(.nm 2), (.lit (.int 13))]), (.tup [(.nm 2), (.neg (.lit (.int 1)))]), (.tup [(.nm 2), (.lit (.bl true))]), (.tup [(.nm 2), (.lit (.bl false))]), (.tup [(.nm 2), (.lit .non)]), (.tup [(.nm 2), (.lit (.str "3"))]), (.tup [(.nm 2), (.tup [(.lit (.int 3))])]), (.tup [(.nm 2)]), (.tup [(.nm 2), (.nm 3), (.lit (.int 0))]), (.tup []), (.lit .non), (.lit (.int 7)), (.lit (.str "23")), (.lit (.bl true)), (.lst [(.nm 2), (.lit (.int 13))]), (.lst [(.lit (.int 257)), (.lit (.int 2))]), (.tup [(.op .add (.nm 3) (.lit (.int 300))), (.nm 2)]), (.tup [(.tup [(.nm 2), (.nm 3)])])]),
  .ret (.ix (.nm 4) (.call 23 [(.nm 0), (.bi .len [(.nm 4)])]))]
def b_law_packet : List Mi.S := [
  .asg 2 (.ix (.lst [(.ix (.nm 1) (.lit (.int 1))), (.call 23 [(.nm 0), (.op .add (.ix (.nm 1) (.lit (.int 1))) (.lit (.int 1)))]), (.lit (.int 0)), (.lit (.int 1))]) (.call 23 [(.nm 0), (.lit (.int 4))])),
  .asg 2 (.bi .min2 [(.nm 2), (.ix (.nm 1) (.lit (.int 1)))]),
  .asg 3 (.comp (.nm 4) (.irng1 (.nm 2)) (.lit (.bl true)) [4] (.ix (.lst [(.op .sub (.ix (.nm 1) (.lit (.int 0))) (.lit (.int 1))), (.lit (.int 0)), (.call 23 [(.nm 0), (.ix (.nm 1) (.lit (.int 0)))])]) (.call 23 [(.nm 0), (.lit (.int 3))]))),
  .ret (.bi .tuple [(.nm 3)])]
def b_law_wrong_packet : List Mi.S := [
  .asgT [3, 4] (.nm 1),
  .asg 5 (.lst [(.op .mul (.tup [(.lit (.int 0))]) (.op .add (.nm 4) (.lit (.int 1)))), (.op .mul (.tup [(.op .sub (.nm 3) (.lit (.int 1)))]) (.op .add (.nm 4) (.lit (.int 1)))), (.lit .non), (.lit (.int 0)), (.lit (.bl true)), (.lit (.str "")), (.lit (.str "0")), (.lit (.str "00")), (.tup [(.nm 3)]), (.tup [(.neg (.lit (.int 1)))]), (.tup [(.lit (.bl true))]), (.tup [(.lit (.bl false))]), (.tup [(.lit (.str "0"))]), (.tup [(.lit .non)]), (.tup [(.tup [(.lit (.int 0))])]), (.tup [(.tup [])]), (.lst [(.nm 3)]), (.op .add (.nm 2) (.tup [(.nm 3)])), (.op .add (.nm 2) (.op .mul (.tup [(.lit (.int 0))]) (.op .sub (.op .add (.nm 4) (.lit (.int 1))) (.bi .len [(.nm 2)]))))]),
  .ife (.cmp .gt (.bi .len [(.nm 2)]) (.lit (.int 0))) [
    .asg 6 (.call 23 [(.nm 0), (.bi .len [(.nm 2)])]),
    .forS (.nm 7) (.iseq (.lst [(.nm 3), (.op .add (.nm 3) (.lit (.int 256))), (.neg (.lit (.int 1))), (.lit (.bl true)), (.lit (.bl false)), (.lit .non), (.lit (.str "1")), (.tup [(.lit (.int 0))]), (.nm 2)])) [
      .app 5 (.op .add (.op .add (.sl (.nm 2) (.lit .non) (.part (.nm 6))) (.tup [(.nm 7)])) (.sl (.nm 2) (.part (.op .add (.nm 6) (.lit (.int 1)))) (.lit .non)))],
    .app 5 (.op .add (.op .add (.bi .list [(.sl (.nm 2) (.lit .non) (.part (.nm 6)))]) (.lst [(.nm 3)])) (.bi .list [(.sl (.nm 2) (.part (.op .add (.nm 6) (.lit (.int 1)))) (.lit .non))]))] [],
  .ret (.ix (.nm 5) (.call 23 [(.nm 0), (.bi .len [(.nm 5)])]))]
def b_law_wrong_number : List Mi.S := [
  .asg 2 (.lst [(.nm 1), (.op .add (.nm 1) (.lit (.int 1))), (.op .add (.nm 1) (.lit (.int 65536))), (.neg (.lit (.int 1))), (.lit (.bl true)), (.lit (.bl false)), (.lit .non), (.lit (.str "0")), (.tup [(.lit (.int 0))]), (.lst [(.lit (.int 0))]), (.tup [])]),
  .ret (.ix (.nm 2) (.call 23 [(.nm 0), (.bi .len [(.nm 2)])]))]
def b_law_refusals_stand : List Mi.S := [
  .asg 3 (.lst [(.lit (.str "count_packets")), (.lit (.str "all_packets")), (.lit (.str "packet_of")), (.lit (.str "number_of")), (.lit (.str "next_packet")), (.lit (.str "cut_packet"))]),
  .asg 4 (.call 28 [(.nm 0), (.nm 1), (.nm 2)]),
  .fz [3] (.forS (.nm 5) (.iseq (.nm 3)) [
    .asg 6 (.call 26 [(.nm 0), (.nm 1)]),
    .ife (.tnot (.call 21 [(.call 24 [(.nm 5), (.nm 6), (.ix (.lst [(.lit .non), (.nm 4), (.nm 2)]) (.call 23 [(.nm 0), (.lit (.int 3))])), (.neg (.lit (.int 1)))]), (.lit (.str "shape")), (.nm 6)])) [
      .ret (.lit (.bl false))] []]),
  .forS (.nm 5) (.iseq (.lst [(.lit (.str "number_of")), (.lit (.str "next_packet")), (.lit (.str "cut_packet"))])) [
    .asg 4 (.call 28 [(.nm 0), (.nm 1), (.nm 2)]),
    .asg 7 (.ix (.lst [(.neg (.lit (.int 1))), (.lit (.bl true)), (.lit .non), (.lit (.int 0)), (.lit (.int 99))]) (.call 23 [(.nm 0), (.lit (.int 5))])),
    .ife (.tnot (.call 21 [(.call 24 [(.nm 5), (.nm 1), (.nm 4), (.nm 7)]), (.lit (.str "packet")), (.nm 4)])) [
      .ret (.lit (.bl false))] []],
  .asg 7 (.call 29 [(.nm 0), (.call 25 [(.nm 1)])]),
  .ife (.tnot (.call 21 [(.call 24 [(.lit (.str "packet_of")), (.nm 1), (.nm 7), (.lit .non)]), (.lit (.str "number")), (.nm 7)])) [
    .ret (.lit (.bl false))] [],
  .asg 7 (.call 29 [(.nm 0), (.op .add (.bi .len [(.nm 2)]) (.lit (.int 1)))]),
  .ret (.call 21 [(.call 24 [(.lit (.str "cut_packet")), (.nm 1), (.nm 2), (.nm 7)]), (.lit (.str "number")), (.nm 7)])]
def b_law_bounds_stand : List Mi.S := [
  .asg 3 (.call 25 [(.nm 1)]),
  .asg 4 (.op .mul (.tup [(.op .sub (.ix (.nm 1) (.lit (.int 0))) (.lit (.int 1)))]) (.ix (.nm 1) (.lit (.int 1)))),
  .asg 5 (.ix (.lst [(.bi .list [(.nm 1)]), (.nm 1)]) (.call 23 [(.nm 0), (.lit (.int 2))])),
  .asg 6 (.ix (.lst [(.bi .list [(.nm 2)]), (.nm 2)]) (.call 23 [(.nm 0), (.lit (.int 2))])),
  .ife (.tnot (.call 20 [(.call 24 [(.lit (.str "count_packets")), (.nm 5), (.lit .non), (.lit .non)]), (.nm 3)])) [
    .ret (.lit (.bl false))] [],
  .ife (.tnot (.call 20 [(.call 24 [(.lit (.str "packet_of")), (.nm 5), (.op .sub (.nm 3) (.lit (.int 1))), (.lit .non)]), (.nm 4)])) [
    .ret (.lit (.bl false))] [],
  .ife (.tnot (.call 20 [(.call 24 [(.lit (.str "packet_of")), (.nm 5), (.lit (.int 0)), (.lit .non)]), (.tup [])])) [
    .ret (.lit (.bl false))] [],
  .ife (.tnot (.call 20 [(.call 24 [(.lit (.str "number_of")), (.nm 5), (.bi .list [(.nm 4)]), (.lit .non)]), (.op .sub (.nm 3) (.lit (.int 1)))])) [
    .ret (.lit (.bl false))] [],
  .ife (.tnot (.call 20 [(.call 24 [(.lit (.str "next_packet")), (.nm 5), (.nm 4), (.lit .non)]), (.lit .non)])) [
    .ret (.lit (.bl false))] [],
  .forS (.nm 7) (.iseq (.lst [(.bi .len [(.nm 2)]), (.lit (.int 0)), (.call 23 [(.nm 0), (.op .add (.bi .len [(.nm 2)]) (.lit (.int 1)))])])) [
    .ife (.tnot (.call 20 [(.call 24 [(.lit (.str "cut_packet")), (.nm 5), (.nm 6), (.nm 7)]), (.sl (.nm 2) (.lit .non) (.part (.nm 7)))])) [
      .ret (.lit (.bl false))] []],
  .ife (.tnot (.call 19 [(.nm 6), (.ite (.isi (.nm 6) [.list] false) (.bi .list [(.nm 2)]) (.nm 2))])) [
    .ret (.lit (.bl false))] [],
  .ret (.call 19 [(.nm 5), (.ite (.isi (.nm 5) [.list] false) (.bi .list [(.nm 1)]) (.nm 1))])]
def b_law_packet_at : List Mi.S := [
  .asg 2 (.lit (.int 0)),
  .asg 3 (.lit (.int 1)),
  .forS (.nm 4) (.irng1 (.ix (.nm 0) (.lit (.int 1)))) [
    .ife (.cmp .ge (.nm 1) (.nm 3)) [
      .asg 1 (.op .sub (.nm 1) (.nm 3)),
      .asg 3 (.op .mul (.nm 3) (.ix (.nm 0) (.lit (.int 0)))),
      .asg 2 (.op .add (.nm 2) (.lit (.int 1)))] []],
  .asg 5 (.lst []),
  .forS (.nm 4) (.irng1 (.nm 2)) [
    .asg 5 (.op .add (.lst [(.op .mod (.bi .int [(.nm 1)]) (.ix (.nm 0) (.lit (.int 0))))]) (.nm 5)),
    .asg 1 (.op .fdiv (.nm 1) (.ix (.nm 0) (.lit (.int 0))))],
  .ret (.bi .tuple [(.nm 5)])]
def b_law_twins_stand : List Mi.S := [
  .asg 1 (.tup [(.op .add (.lit (.int 2)) (.call 23 [(.nm 0), (.lit (.int 3))])), (.lit (.int 1))]),
  .forS (.nm 2) (.irng1 (.lit (.int 2))) [
    .ife (.tnot (.call 20 [(.call 24 [(.lit (.str "count_packets")), (.nm 1), (.lit .non), (.lit .non)]), (.op .add (.ix (.nm 1) (.lit (.int 0))) (.lit (.int 1)))])) [
      .ret (.lit (.bl false))] [],
    .ife (.tnot (.call 21 [(.call 24 [(.lit (.str "count_packets")), (.tup [(.ix (.nm 1) (.lit (.int 0))), (.lit (.bl true))]), (.lit .non), (.lit .non)]), (.lit (.str "shape")), (.tup [(.ix (.nm 1) (.lit (.int 0))), (.lit (.bl true))])])) [
      .ret (.lit (.bl false))] [],
    .ife (.tnot (.call 20 [(.call 24 [(.lit (.str "number_of")), (.nm 1), (.tup [(.lit (.int 1))]), (.lit .non)]), (.lit (.int 2))])) [
      .ret (.lit (.bl false))] [],
    .ife (.tnot (.call 21 [(.call 24 [(.lit (.str "number_of")), (.nm 1), (.tup [(.lit (.bl true))]), (.lit .non)]), (.lit (.str "packet")), (.tup [(.lit (.bl true))])])) [
      .ret (.lit (.bl false))] [],
    .ife (.tnot (.call 20 [(.call 24 [(.lit (.str "packet_of")), (.nm 1), (.lit (.int 1)), (.lit .non)]), (.tup [(.lit (.int 0))])])) [
      .ret (.lit (.bl false))] [],
    .ife (.tnot (.call 21 [(.call 24 [(.lit (.str "packet_of")), (.nm 1), (.lit (.bl true)), (.lit .non)]), (.lit (.str "number")), (.lit (.bl true))])) [
      .ret (.lit (.bl false))] [],
    .ife (.tnot (.call 20 [(.call 24 [(.lit (.str "cut_packet")), (.nm 1), (.tup [(.lit (.int 1))]), (.lit (.int 0))]), (.tup [])])) [
      .ret (.lit (.bl false))] [],
    .ife (.tnot (.call 21 [(.call 24 [(.lit (.str "cut_packet")), (.nm 1), (.tup [(.lit (.int 1))]), (.lit (.bl false))]), (.lit (.str "number")), (.lit (.bl false))])) [
      .ret (.lit (.bl false))] []],
  .asg 3 (.lst [(.lit (.int 1))]),
  .asg 4 (.lend [3] (.call 24 [(.lit (.str "next_packet")), (.lst [(.ix (.nm 1) (.lit (.int 0))), (.lit (.int 3))]), (.nm 3), (.lit .non)])),
  .setix 3 (.lit (.int 0)) (.lit (.int 0)),
  .ife (.tnot (.call 20 [(.nm 4), (.ite (.cmp .eq (.ix (.nm 1) (.lit (.int 0))) (.lit (.int 2))) (.tup [(.lit (.int 0)), (.lit (.int 0))]) (.tup [(.lit (.int 2))]))])) [
    .ret (.lit (.bl false))] [],
  .fz [3] (.ret (.call 20 [(.call 24 [(.lit (.str "next_packet")), (.lst [(.ix (.nm 1) (.lit (.int 0))), (.lit (.int 3))]), (.nm 3), (.lit .non)]), (.tup [(.lit (.int 1))])]))]
def b_law_many_stands : List Mi.S := [
  .asg 1 (.lst [(.tup [(.lit (.int 71)), (.lit (.int 2))]), (.tup [(.lit (.int 17)), (.lit (.int 3))]), (.tup [(.lit (.int 9)), (.lit (.int 4))]), (.tup [(.lit (.int 6)), (.lit (.int 5))]), (.tup [(.lit (.int 4)), (.lit (.int 6))]), (.tup [(.lit (.int 4)), (.lit (.int 7))]), (.tup [(.lit (.int 4)), (.lit (.int 8))]), (.tup [(.lit (.int 3)), (.lit (.int 8))]), (.tup [(.lit (.int 3)), (.lit (.int 9))]), (.tup [(.lit (.int 3)), (.lit (.int 11))]), (.tup [(.lit (.int 2)), (.lit (.int 12))]), (.tup [(.lit (.int 256)), (.lit (.int 2))]), (.tup [(.lit (.int 256)), (.lit (.int 12))])]),
  .asg 2 (.ix (.nm 1) (.call 23 [(.nm 0), (.bi .len [(.nm 1)])])),
  .asg 3 (.tup [(.bi .min2 [(.lit (.int 256)), (.op .add (.ix (.nm 2) (.lit (.int 0))) (.call 23 [(.nm 0), (.lit (.int 3))]))]), (.ix (.nm 2) (.lit (.int 1)))]),
  .ife (.tnot (.call 21 [(.call 24 [(.lit (.str "all_packets")), (.nm 3), (.lit .non), (.lit .non)]), (.lit (.str "many")), (.lit (.str "packets"))])) [
    .ret (.lit (.bl false))] [],
  .asg 4 (.lst [(.tup [(.lit (.int 70)), (.lit (.int 2))]), (.tup [(.lit (.int 16)), (.lit (.int 3))]), (.tup [(.lit (.int 8)), (.lit (.int 4))]), (.tup [(.lit (.int 5)), (.lit (.int 5))]), (.tup [(.lit (.int 3)), (.lit (.int 6))]), (.tup [(.lit (.int 3)), (.lit (.int 7))]), (.tup [(.lit (.int 2)), (.lit (.int 8))]), (.tup [(.lit (.int 2)), (.lit (.int 11))]), (.tup [(.lit (.int 256)), (.lit (.int 1))]), (.tup [(.lit (.int 256)), (.lit (.int 0))]), (.tup [(.lit (.int 70)), (.lit (.int 1))]), (.tup [(.lit (.int 2)), (.lit (.int 10))])]),
  .ife (.cmp .gt (.call 23 [(.nm 0), (.lit (.int 3))]) (.lit (.int 0))) [
    .asg 4 (.lst [(.tup [(.lit (.int 7)), (.lit (.int 2))]), (.tup [(.lit (.int 2)), (.lit (.int 5))]), (.tup [(.lit (.int 3)), (.lit (.int 4))]), (.tup [(.lit (.int 16)), (.lit (.int 1))]), (.tup [(.lit (.int 5)), (.lit (.int 0))])])] [],
  .asg 2 (.ix (.nm 4) (.call 23 [(.nm 0), (.bi .len [(.nm 4)])])),
  .asg 5 (.call 25 [(.nm 2)]),
  .asg 6 (.call 24 [(.lit (.str "all_packets")), (.bi .list [(.nm 2)]), (.lit .non), (.lit .non)]),
  .ife (.tor (.cmp .ne (.ix (.nm 6) (.lit (.int 0))) (.lit (.str "told"))) (.tor (.tnot (.isi (.ix (.nm 6) (.lit (.int 1))) [.tuple] false)) (.cmp .ne (.bi .len [(.ix (.nm 6) (.lit (.int 1)))]) (.nm 5)))) [
    .ret (.lit (.bl false))] [],
  .ife (.tor (.tnot (.call 19 [(.ix (.ix (.nm 6) (.lit (.int 1))) (.lit (.int 0))), (.tup [])])) (.tnot (.call 19 [(.ix (.ix (.nm 6) (.lit (.int 1))) (.op .sub (.nm 5) (.lit (.int 1)))), (.op .mul (.tup [(.op .sub (.ix (.nm 2) (.lit (.int 0))) (.lit (.int 1)))]) (.ix (.nm 2) (.lit (.int 1))))]))) [
    .ret (.lit (.bl false))] [],
  .asg 7 (.call 23 [(.nm 0), (.nm 5)]),
  .asg 8 (.call 32 [(.nm 2), (.nm 7)]),
  .ife (.tor (.tnot (.call 19 [(.ix (.ix (.nm 6) (.lit (.int 1))) (.nm 7)), (.nm 8)])) (.tnot (.call 20 [(.call 24 [(.lit (.str "number_of")), (.nm 2), (.nm 8), (.lit .non)]), (.nm 7)]))) [
    .ret (.lit (.bl false))] [],
  .ret (.call 20 [(.call 24 [(.lit (.str "packet_of")), (.nm 2), (.nm 7), (.lit .non)]), (.nm 8)])]
def b_law : List Mi.S := [
  .asg 2 (.tup [(.op .add (.lit (.int 2)) (.call 23 [(.nm 1), (.lit (.int 4))])), (.call 23 [(.nm 1), (.lit (.int 5))])]),
  .asg 3 (.call 23 [(.nm 1), (.lit (.int 4))]),
  .ife (.cmp .eq (.nm 3) (.lit (.int 0))) [
    .asg 2 (.tup [(.op .add (.lit (.int 2)) (.call 23 [(.nm 1), (.lit (.int 255))])), (.call 23 [(.nm 1), (.lit (.int 13))])])] [],
  .ife (.cmp .eq (.nm 3) (.lit (.int 1))) [
    .asg 2 (.tup [(.ix (.lst [(.lit (.int 2)), (.lit (.int 256)), (.lit (.int 255)), (.lit (.int 3))]) (.call 23 [(.nm 1), (.lit (.int 4))])), (.ix (.lst [(.lit (.int 12)), (.lit (.int 0)), (.lit (.int 1)), (.lit (.int 11))]) (.call 23 [(.nm 1), (.lit (.int 4))]))])] [],
  .asg 4 (.call 27 [(.nm 1), (.nm 2)]),
  .forS (.nm 5) (.irng1 (.lit (.int 3))) [
    .ife (.tnot (.call 30 [(.nm 1), (.nm 2), (.nm 4)])) [
      .ret (.lit (.bl false))] []],
  .ife (.tor (.tnot (.call 31 [(.nm 1), (.nm 2), (.nm 4)])) (.tnot (.call 33 [(.nm 1)]))) [
    .ret (.lit (.bl false))] [],
  .ret (.call 34 [(.nm 1)])]
def T0 : List Fn := [.dfn 3 3 b_is_from_to, .dfn 1 1 b_is_row, .dfn 3 3 b_check_number, .dfn 1 1 b_checked_shape, .dfn 2 4 b_power_of, .dfn 2 5 b_is_packet, .dfn 2 2 b_checked_packet, .dfn 1 4 b_count_all, .dfn 2 6 b_of_length, .dfn 1 1 b_check_few, .dfn 1 5 b_listed, .dfn 1 1 b_count_packets, .dfn 1 1 b_all_packets, .dfn 2 7 b_packet_of, .dfn 2 9 b_number_of, .dfn 2 4 b_next_packet, .dfn 3 5 b_cut_packet, .dfn 1 2 b_law_kinds, .dfn 2 2 b_law_kept, .dfn 2 3 b_law_same, .dfn 2 2 b_law_told, .dfn 3 3 b_law_raised, .dfn 1 4 b_law_start, .dfn 2 4 b_law_draw, .dfn 4 6 b_law_ask, .dfn 1 4 b_law_count, .dfn 2 5 b_law_wrong_shape, .dfn 2 5 b_law_packet, .dfn 3 8 b_law_wrong_packet, .dfn 2 3 b_law_wrong_number, .dfn 3 8 b_law_refusals_stand, .dfn 3 8 b_law_bounds_stand, .dfn 2 6 b_law_packet_at, .dfn 1 5 b_law_twins_stand, .dfn 1 9 b_law_many_stands]
@[irreducible] def T : List Fn := T0
theorem T_ds {K : PySem.W.Frag} {mg : Str → Option Value} (h : DefsAt K mg tp 0 fns T0) : DefsAt K mg tp 0 fns T := by
  unfold T
  exact h
theorem okT : okTab fns T = true := by kernel_rfl
theorem d_is_from_to : T[0]? = some (.dfn 3 3 b_is_from_to) := by kernel_rfl
theorem d_is_row : T[1]? = some (.dfn 1 1 b_is_row) := by kernel_rfl
theorem d_check_number : T[2]? = some (.dfn 3 3 b_check_number) := by kernel_rfl
theorem d_checked_shape : T[3]? = some (.dfn 1 1 b_checked_shape) := by kernel_rfl
theorem d_power_of : T[4]? = some (.dfn 2 4 b_power_of) := by kernel_rfl
theorem d_is_packet : T[5]? = some (.dfn 2 5 b_is_packet) := by kernel_rfl
theorem d_checked_packet : T[6]? = some (.dfn 2 2 b_checked_packet) := by kernel_rfl
theorem d_count_all : T[7]? = some (.dfn 1 4 b_count_all) := by kernel_rfl
theorem d_of_length : T[8]? = some (.dfn 2 6 b_of_length) := by kernel_rfl
theorem d_check_few : T[9]? = some (.dfn 1 1 b_check_few) := by kernel_rfl
theorem d_listed : T[10]? = some (.dfn 1 5 b_listed) := by kernel_rfl
theorem d_count_packets : T[11]? = some (.dfn 1 1 b_count_packets) := by kernel_rfl
theorem d_all_packets : T[12]? = some (.dfn 1 1 b_all_packets) := by kernel_rfl
theorem d_packet_of : T[13]? = some (.dfn 2 7 b_packet_of) := by kernel_rfl
theorem d_number_of : T[14]? = some (.dfn 2 9 b_number_of) := by kernel_rfl
theorem d_next_packet : T[15]? = some (.dfn 2 4 b_next_packet) := by kernel_rfl
theorem d_cut_packet : T[16]? = some (.dfn 3 5 b_cut_packet) := by kernel_rfl
theorem d_law_kinds : T[17]? = some (.dfn 1 2 b_law_kinds) := by kernel_rfl
theorem d_law_kept : T[18]? = some (.dfn 2 2 b_law_kept) := by kernel_rfl
theorem d_law_same : T[19]? = some (.dfn 2 3 b_law_same) := by kernel_rfl
theorem d_law_told : T[20]? = some (.dfn 2 2 b_law_told) := by kernel_rfl
theorem d_law_raised : T[21]? = some (.dfn 3 3 b_law_raised) := by kernel_rfl
theorem d_law_start : T[22]? = some (.dfn 1 4 b_law_start) := by kernel_rfl
theorem d_law_draw : T[23]? = some (.dfn 2 4 b_law_draw) := by kernel_rfl
theorem d_law_ask : T[24]? = some (.dfn 4 6 b_law_ask) := by kernel_rfl
theorem d_law_count : T[25]? = some (.dfn 1 4 b_law_count) := by kernel_rfl
theorem d_law_wrong_shape : T[26]? = some (.dfn 2 5 b_law_wrong_shape) := by kernel_rfl
theorem d_law_packet : T[27]? = some (.dfn 2 5 b_law_packet) := by kernel_rfl
theorem d_law_wrong_packet : T[28]? = some (.dfn 3 8 b_law_wrong_packet) := by kernel_rfl
theorem d_law_wrong_number : T[29]? = some (.dfn 2 3 b_law_wrong_number) := by kernel_rfl
theorem d_law_refusals_stand : T[30]? = some (.dfn 3 8 b_law_refusals_stand) := by kernel_rfl
theorem d_law_bounds_stand : T[31]? = some (.dfn 3 8 b_law_bounds_stand) := by kernel_rfl
theorem d_law_packet_at : T[32]? = some (.dfn 2 6 b_law_packet_at) := by kernel_rfl
theorem d_law_twins_stand : T[33]? = some (.dfn 1 5 b_law_twins_stand) := by kernel_rfl
theorem d_law_many_stands : T[34]? = some (.dfn 1 9 b_law_many_stands) := by kernel_rfl
theorem tx_is_from_to : DefTx tp false "is_from_to" (topS 19) ["value", "least", "most"] 3 b_is_from_to := ⟨(fun _ _ _ _ _ _ us hl => match us, hl with | [_, _, _], _ => rfl), ["value", "least", "most"], [], [], [], 200, rfl, by decide, ⟨rfl, rfl, rfl, by decide +kernel, rfl, by decide +kernel, by decide +kernel⟩, by kernel_rfl⟩
theorem tx_is_row : DefTx tp false "is_row" (topS 20) ["value"] 1 b_is_row := ⟨(fun _ _ _ _ _ _ us hl => match us, hl with | [_], _ => rfl), ["value"], [], [], [], 200, rfl, by decide, ⟨rfl, rfl, rfl, by decide +kernel, rfl, by decide +kernel, by decide +kernel⟩, by kernel_rfl⟩
theorem tx_check_number : DefTx tp false "check_number" (topS 21) ["value", "least", "most"] 3 b_check_number := ⟨(fun _ _ _ _ _ _ us hl => match us, hl with | [_, _, _], _ => rfl), ["value", "least", "most"], [], [], [], 200, rfl, by decide, ⟨rfl, rfl, rfl, by decide +kernel, rfl, by decide +kernel, by decide +kernel⟩, by kernel_rfl⟩
theorem tx_checked_shape : DefTx tp false "checked_shape" (topS 22) ["shape"] 1 b_checked_shape := ⟨(fun _ _ _ _ _ _ us hl => match us, hl with | [_], _ => rfl), ["shape"], [], [], [], 200, rfl, by decide, ⟨rfl, rfl, rfl, by decide +kernel, rfl, by decide +kernel, by decide +kernel⟩, by kernel_rfl⟩
theorem tx_power_of : DefTx tp false "power_of" (topS 23) ["base", "many"] 4 b_power_of := ⟨(fun _ _ _ _ _ _ us hl => match us, hl with | [_, _], _ => rfl), ["base", "many", "found", "_"], [], [], [], 200, rfl, by decide, ⟨rfl, rfl, rfl, by decide +kernel, rfl, by decide +kernel, by decide +kernel⟩, by kernel_rfl⟩
theorem tx_is_packet : DefTx tp false "is_packet" (topS 26) ["shape", "value"] 5 b_is_packet := ⟨(fun _ _ _ _ _ _ us hl => match us, hl with | [_, _], _ => rfl), ["shape", "value", "base", "longest", "sign"], ["base"], [], [], 200, rfl, by decide, ⟨rfl, rfl, rfl, by decide +kernel, rfl, by decide +kernel, by decide +kernel⟩, by kernel_rfl⟩
theorem tx_checked_packet : DefTx tp false "checked_packet" (topS 27) ["shape", "packet"] 2 b_checked_packet := ⟨(fun _ _ _ _ _ _ us hl => match us, hl with | [_, _], _ => rfl), ["shape", "packet"], [], [], [], 200, rfl, by decide, ⟨rfl, rfl, rfl, by decide +kernel, rfl, by decide +kernel, by decide +kernel⟩, by kernel_rfl⟩
theorem tx_count_all : DefTx tp false "count_all" (topS 28) ["shape"] 4 b_count_all := ⟨(fun _ _ _ _ _ _ us hl => match us, hl with | [_], _ => rfl), ["shape", "base", "longest", "length"], ["base"], [], [], 200, rfl, by decide, ⟨rfl, rfl, rfl, by decide +kernel, rfl, by decide +kernel, by decide +kernel⟩, by kernel_rfl⟩
theorem tx_of_length : DefTx tp false "of_length" (topS 29) ["base", "length"] 6 b_of_length := ⟨(fun _ _ _ _ _ _ us hl => match us, hl with | [_, _], _ => rfl), ["base", "length", "found", "_", "packet", "sign"], ["base"], [2], [], 200, rfl, by decide, ⟨rfl, rfl, rfl, by decide +kernel, rfl, by decide +kernel, by decide +kernel⟩, by kernel_rfl⟩
theorem tx_check_few : DefTx tp false "check_few" (topS 30) ["shape"] 1 b_check_few := ⟨(fun _ _ _ _ _ _ us hl => match us, hl with | [_], _ => rfl), ["shape"], [], [], [], 200, rfl, by decide, ⟨rfl, rfl, rfl, by decide +kernel, rfl, by decide +kernel, by decide +kernel⟩, by kernel_rfl⟩
theorem tx_listed : DefTx tp false "listed" (topS 31) ["shape"] 5 b_listed := ⟨(fun _ _ _ _ _ _ us hl => match us, hl with | [_], _ => rfl), ["shape", "base", "longest", "length", "packet"], ["base"], [], [], 200, rfl, by decide, ⟨rfl, rfl, rfl, by decide +kernel, rfl, by decide +kernel, by decide +kernel⟩, by kernel_rfl⟩
theorem tx_count_packets : DefTx tp false "count_packets" (topS 32) ["shape"] 1 b_count_packets := ⟨(fun _ _ _ _ _ _ us hl => match us, hl with | [_], _ => rfl), ["shape"], [], [], [], 200, rfl, by decide, ⟨rfl, rfl, rfl, by decide +kernel, rfl, by decide +kernel, by decide +kernel⟩, by kernel_rfl⟩
theorem tx_all_packets : DefTx tp false "all_packets" (topS 33) ["shape"] 1 b_all_packets := ⟨(fun _ _ _ _ _ _ us hl => match us, hl with | [_], _ => rfl), ["shape"], [], [], [], 200, rfl, by decide, ⟨rfl, rfl, rfl, by decide +kernel, rfl, by decide +kernel, by decide +kernel⟩, by kernel_rfl⟩
theorem tx_packet_of : DefTx tp false "packet_of" (topS 34) ["shape", "number"] 7 b_packet_of := ⟨(fun _ _ _ _ _ _ us hl => match us, hl with | [_, _], _ => rfl), ["shape", "number", "base", "longest", "length", "found", "_"], [], [5], [], 200, rfl, by decide, ⟨rfl, rfl, rfl, by decide +kernel, rfl, by decide +kernel, by decide +kernel⟩, by kernel_rfl⟩
theorem tx_number_of : DefTx tp false "number_of" (topS 35) ["shape", "packet"] 9 b_number_of := ⟨(fun _ _ _ _ _ _ us hl => match us, hl with | [_, _], _ => rfl), ["shape", "packet", "known", "base", "_", "signs", "found", "sign", "length"], ["base"], [], [], 200, rfl, by decide, ⟨rfl, rfl, rfl, by decide +kernel, rfl, by decide +kernel, by decide +kernel⟩, by kernel_rfl⟩
theorem tx_next_packet : DefTx tp false "next_packet" (topS 36) ["shape", "packet"] 4 b_next_packet := ⟨(fun _ _ _ _ _ _ us hl => match us, hl with | [_, _], _ => rfl), ["shape", "packet", "known", "number"], [], [], [], 200, rfl, by decide, ⟨rfl, rfl, rfl, by decide +kernel, rfl, by decide +kernel, by decide +kernel⟩, by kernel_rfl⟩
theorem tx_cut_packet : DefTx tp false "cut_packet" (topS 37) ["shape", "packet", "length"] 5 b_cut_packet := ⟨(fun _ _ _ _ _ _ us hl => match us, hl with | [_, _, _], _ => rfl), ["shape", "packet", "length", "known", "signs"], [], [], [], 200, rfl, by decide, ⟨rfl, rfl, rfl, by decide +kernel, rfl, by decide +kernel, by decide +kernel⟩, by kernel_rfl⟩
theorem tx_law_kinds : DefTx tp true "_law_kinds" (topS 39) ["error"] 2 b_law_kinds := ⟨(fun _ _ _ _ _ _ us hl => match us, hl with | [_], _ => rfl), ["error", "kinds"], [], [1], [], 200, rfl, by decide, ⟨rfl, rfl, rfl, by decide +kernel, rfl, by decide +kernel, by decide +kernel⟩, by kernel_rfl⟩
theorem tx_law_kept : DefTx tp true "_law_kept" (topS 40) ["error", "kind"] 2 b_law_kept := ⟨(fun _ _ _ _ _ _ us hl => match us, hl with | [_, _], _ => rfl), ["error", "kind"], [], [], [], 200, rfl, by decide, ⟨rfl, rfl, rfl, by decide +kernel, rfl, by decide +kernel, by decide +kernel⟩, by kernel_rfl⟩
theorem tx_law_same : DefTx tp false "_law_same" (topS 41) ["told", "due"] 3 b_law_same := ⟨(fun _ _ _ _ _ _ us hl => match us, hl with | [_, _], _ => rfl), ["told", "due", "k"], [], [], [], 200, rfl, by decide, ⟨rfl, rfl, rfl, by decide +kernel, rfl, by decide +kernel, by decide +kernel⟩, by kernel_rfl⟩
theorem tx_law_told : DefTx tp false "_law_told" (topS 42) ["told", "due"] 2 b_law_told := ⟨(fun _ _ _ _ _ _ us hl => match us, hl with | [_, _], _ => rfl), ["told", "due"], [], [], [], 200, rfl, by decide, ⟨rfl, rfl, rfl, by decide +kernel, rfl, by decide +kernel, by decide +kernel⟩, by kernel_rfl⟩
theorem tx_law_raised : DefTx tp false "_law_raised" (topS 43) ["told", "kind", "kept"] 3 b_law_raised := ⟨(fun _ _ _ _ _ _ us hl => match us, hl with | [_, _, _], _ => rfl), ["told", "kind", "kept"], [], [], [], 200, rfl, by decide, ⟨rfl, rfl, rfl, by decide +kernel, rfl, by decide +kernel, by decide +kernel⟩, by kernel_rfl⟩
theorem tx_law_start : DefTx tp false "_law_start" (topS 44) ["script"] 4 b_law_start := ⟨(fun _ _ _ _ _ _ us hl => match us, hl with | [_], _ => rfl), ["script", "cells", "great", "cell"], [], [1, 2], [], 200, rfl, by decide, ⟨rfl, rfl, rfl, by decide +kernel, rfl, by decide +kernel, by decide +kernel⟩, by kernel_rfl⟩
theorem tx_law_draw : DefTx tp false "_law_draw" (topS 45) ["state", "many"] 4 b_law_draw := ⟨(fun _ _ _ _ _ _ us hl => match us, hl with | [_, _], _ => rfl), ["state", "many", "worth", "cell"], [], [], [], 200, rfl, by decide, ⟨rfl, rfl, rfl, by decide +kernel, rfl, by decide +kernel, by decide +kernel⟩, by kernel_rfl⟩
theorem tx_law_ask : DefTx tp false "_law_ask" (topS 46) ["name", "a", "b", "c"] 6 b_law_ask := ⟨(fun _ _ _ _ _ _ us hl => match us, hl with | [_, _, _, _], _ => rfl), ["name", "a", "b", "c", "error", "kinds"], [], [], [], 200, rfl, by decide, ⟨rfl, rfl, rfl, by decide +kernel, rfl, by decide +kernel, by decide +kernel⟩, by kernel_rfl⟩
theorem tx_law_count : DefTx tp false "_law_count" (topS 47) ["shape"] 4 b_law_count := ⟨(fun _ _ _ _ _ _ us hl => match us, hl with | [_], _ => rfl), ["shape", "many", "power", "length"], [], [], [], 200, rfl, by decide, ⟨rfl, rfl, rfl, by decide +kernel, rfl, by decide +kernel, by decide +kernel⟩, by kernel_rfl⟩
theorem tx_law_wrong_shape : DefTx tp false "_law_wrong_shape" (topS 48) ["state", "shape"] 5 b_law_wrong_shape := ⟨(fun _ _ _ _ _ _ us hl => match us, hl with | [_, _], _ => rfl), ["state", "shape", "base", "longest", "wrong"], [], [4], [], 200, rfl, by decide, ⟨rfl, rfl, rfl, by decide +kernel, rfl, by decide +kernel, by decide +kernel⟩, by kernel_rfl⟩
theorem tx_law_packet : DefTx tp false "_law_packet" (topS 49) ["state", "shape"] 5 b_law_packet := ⟨(fun _ _ _ _ _ _ us hl => match us, hl with | [_, _], _ => rfl), ["state", "shape", "many", "signs", "k"], ["state", "shape"], [3], [], 200, rfl, by decide, ⟨rfl, rfl, rfl, by decide +kernel, rfl, by decide +kernel, by decide +kernel⟩, by kernel_rfl⟩
theorem tx_law_wrong_packet : DefTx tp false "_law_wrong_packet" (topS 50) ["state", "shape", "packet"] 8 b_law_wrong_packet := ⟨(fun _ _ _ _ _ _ us hl => match us, hl with | [_, _, _], _ => rfl), ["state", "shape", "packet", "base", "longest", "wrong", "at", "sign"], [], [5], [], 200, rfl, by decide, ⟨rfl, rfl, rfl, by decide +kernel, rfl, by decide +kernel, by decide +kernel⟩, by kernel_rfl⟩
theorem tx_law_wrong_number : DefTx tp false "_law_wrong_number" (topS 51) ["state", "least"] 3 b_law_wrong_number := ⟨(fun _ _ _ _ _ _ us hl => match us, hl with | [_, _], _ => rfl), ["state", "least", "wrong"], [], [2], [], 200, rfl, by decide, ⟨rfl, rfl, rfl, by decide +kernel, rfl, by decide +kernel, by decide +kernel⟩, by kernel_rfl⟩
theorem tx_law_refusals_stand : DefTx tp false "_law_refusals_stand" (topS 52) ["state", "shape", "packet"] 8 b_law_refusals_stand := ⟨(fun _ _ _ _ _ _ us hl => match us, hl with | [_, _, _], _ => rfl), ["state", "shape", "packet", "names", "stray", "name", "bad", "number"], [], [3], [], 200, rfl, by decide, ⟨rfl, rfl, rfl, by decide +kernel, rfl, by decide +kernel, by decide +kernel⟩, by kernel_rfl⟩
theorem tx_law_bounds_stand : DefTx tp false "_law_bounds_stand" (topS 53) ["state", "shape", "packet"] 8 b_law_bounds_stand := ⟨(fun _ _ _ _ _ _ us hl => match us, hl with | [_, _, _], _ => rfl), ["state", "shape", "packet", "count", "last", "given", "handed", "length"], [], [], [], 200, rfl, by decide, ⟨rfl, rfl, rfl, by decide +kernel, rfl, by decide +kernel, by decide +kernel⟩, by kernel_rfl⟩
theorem tx_law_packet_at : DefTx tp false "_law_packet_at" (topS 54) ["shape", "number"] 6 b_law_packet_at := ⟨(fun _ _ _ _ _ _ us hl => match us, hl with | [_, _], _ => rfl), ["shape", "number", "length", "power", "k", "signs"], [], [5], [], 200, rfl, by decide, ⟨rfl, rfl, rfl, by decide +kernel, rfl, by decide +kernel, by decide +kernel⟩, by kernel_rfl⟩
theorem tx_law_twins_stand : DefTx tp false "_law_twins_stand" (topS 55) ["state"] 5 b_law_twins_stand := ⟨(fun _ _ _ _ _ _ us hl => match us, hl with | [_], _ => rfl), ["state", "shape", "turn", "handed", "told"], [], [3], [3], 200, rfl, by decide, ⟨rfl, rfl, rfl, by decide +kernel, rfl, by decide +kernel, by decide +kernel⟩, by kernel_rfl⟩
theorem tx_law_many_stands : DefTx tp false "_law_many_stands" (topS 56) ["state"] 9 b_law_many_stands := ⟨(fun _ _ _ _ _ _ us hl => match us, hl with | [_], _ => rfl), ["state", "least", "shape", "more", "most", "count", "told", "at", "packet"], [], [1, 4], [], 200, rfl, by decide, ⟨rfl, rfl, rfl, by decide +kernel, rfl, by decide +kernel, by decide +kernel⟩, by kernel_rfl⟩
theorem tx_law (pl : Plain T 30 6 1 (fun ds => ds ++ []) 22 b_law) : LawTx T tp (topS 57) 30 := ⟨(fun _ _ _ _ _ _ us hl => match us, hl with | [_], _ => rfl), ["script", "state", "shape", "kind", "packet", "turn"], [], [], [], 200, 1, 22, (defBody (topS 57)).getD 0 (.Pass ⟨0, 0, 0, 0⟩), (defBody (topS 57)).drop 1, [], [], b_law, ⟨rfl, rfl, rfl, by decide +kernel, rfl, by decide +kernel, by decide +kernel⟩, rfl, by kernel_rfl, by kernel_rfl, by decide, by decide, (fun c ρ g => by simp [evL, ev]), pl⟩
end K01


set_option Elab.async false
set_option maxRecDepth 10000
/-! k01 in plain numbers: packets by length and value. -/
namespace K01
open PySem L2 Mi Mi.Pl
/-- sums of powers -/
def ahead (b : Nat) : Nat → Nat
  | 0 => 0
  | n + 1 => ahead b n + b ^ n
/-- the packet of this length and value -/
def digs (b : Nat) : Nat → Nat → List Nat
  | 0, _ => []
  | n + 1, v => digs b n (v / b) ++ [v % b]
def val (b : Nat) (p : List Nat) : Nat := p.foldl (fun w s => w * b + s) 0
theorem digs_len (b : Nat) : ∀ n v, (digs b n v).length = n
  | 0, _ => rfl
  | n + 1, v => by unfold digs; rw [List.length_append, digs_len b n]; rfl
theorem digs_lt {b : Nat} (hb : 0 < b) : ∀ n v, ∀ s ∈ digs b n v, s < b
  | 0, _, s, h => by cases h
  | n + 1, v, s, h => by
    unfold digs at h
    rcases List.mem_append.mp h with h | h
    · exact digs_lt hb n _ s h
    · have e : s = v % b := by simpa using h
      exact e ▸ Nat.mod_lt _ hb
theorem val_app (b : Nat) (p : List Nat) (s : Nat) : val b (p ++ [s]) = val b p * b + s := by unfold val; rw [List.foldl_append]; rfl
theorem val_digs {b : Nat} (hb : 0 < b) : ∀ n v, v < b ^ n → val b (digs b n v) = v
  | 0, v, h => by
    have e : v = 0 := by rw [Nat.pow_zero] at h; omega
    subst e; rfl
  | n + 1, v, h => by
    unfold digs
    rw [val_app, val_digs hb n (v / b) (by rw [Nat.div_lt_iff_lt_mul hb]; rw [Nat.pow_succ] at h; exact h)]
    exact Nat.div_add_mod' v b
theorem rev_ind {P : List Nat → Prop} (h0 : P []) (h1 : ∀ q s, P q → P (q ++ [s])) (p : List Nat) : P p := by
  have h : ∀ r : List Nat, P r.reverse := fun r => by
    induction r with
    | nil => exact h0
    | cons a r ih => rw [List.reverse_cons]; exact h1 _ _ ih
  have := h p.reverse
  rwa [List.reverse_reverse] at this
theorem val_lt {b : Nat} (hb : 0 < b) : ∀ p : List Nat, (∀ s ∈ p, s < b) → val b p < b ^ p.length := fun p => rev_ind (P := fun p => (∀ s ∈ p, s < b) → val b p < b ^ p.length) (fun _ => by simp [val])
  (fun q s ih h => by
    rw [val_app, List.length_append, List.length_singleton, Nat.pow_succ]
    have h1 := ih fun t ht => h t (List.mem_append_left _ ht)
    have h2 : s < b := h s (by simp)
    have h3 : (val b q + 1) * b ≤ b ^ q.length * b := Nat.mul_le_mul_right b h1
    rw [Nat.add_mul, Nat.one_mul] at h3
    omega) p
theorem digs_val {b : Nat} (hb : 0 < b) : ∀ p : List Nat, (∀ s ∈ p, s < b) → digs b p.length (val b p) = p := fun p => rev_ind (P := fun p => (∀ s ∈ p, s < b) → digs b p.length (val b p) = p) (fun _ => rfl)
  (fun q s ih h => by
    have h2 : s < b := h s (by simp)
    rw [val_app, List.length_append, List.length_singleton]
    unfold digs
    have e1 : (val b q * b + s) / b = val b q := by rw [Nat.mul_comm, Nat.mul_add_div hb, Nat.div_eq_of_lt h2, Nat.add_zero]
    have e2 : (val b q * b + s) % b = s := by rw [Nat.mul_comm, Nat.mul_add_mod, Nat.mod_eq_of_lt h2]
    rw [e1, e2, ih fun t ht => h t (List.mem_append_left _ ht)]) p
theorem ahead_mono (b : Nat) {m n : Nat} (h : m ≤ n) : ahead b m ≤ ahead b n := by
  induction h with
  | refl => exact Nat.le_refl _
  | step _ ih => exact Nat.le_trans ih (Nat.le_add_right _ _)
/-- each number below has its length and value -/
theorem split_num (b : Nat) : ∀ n x, x < ahead b n → ∃ l v, l < n ∧ v < b ^ l ∧ x = ahead b l + v
  | 0, x, h => by cases h
  | n + 1, x, h => by
    by_cases h2 : x < ahead b n
    · obtain ⟨l, v, h3, h4, h5⟩ := split_num b n x h2
      exact ⟨l, v, Nat.lt_succ_of_lt h3, h4, h5⟩
    · refine ⟨n, x - ahead b n, Nat.lt_succ_self _, ?_, by omega⟩
      have : x < ahead b n + b ^ n := h
      omega
theorem ahead_add_lt (b : Nat) {l v n : Nat} (h : l < n) (hv : v < b ^ l) : ahead b l + v < ahead b n := by
  have h1 : ahead b (l + 1) ≤ ahead b n := ahead_mono b h
  have h2 : ahead b (l + 1) = ahead b l + b ^ l := rfl
  omega
/-- all of one length, all of them -/
def ofLen (b l : Nat) : List (List Nat) := (List.range (b ^ l)).map (digs b l)
def allP (b : Nat) : Nat → List (List Nat)
  | 0 => []
  | n + 1 => allP b n ++ ofLen b n
theorem allP_len (b : Nat) : ∀ n, (allP b n).length = ahead b n
  | 0 => rfl
  | n + 1 => by unfold allP ahead; rw [List.length_append, allP_len b n]; unfold ofLen; simp
theorem allP_get (b : Nat) : ∀ n l v, l < n → v < b ^ l → (allP b n)[ahead b l + v]? = some (digs b l v)
  | n + 1, l, v, hl, hv => by
    unfold allP
    by_cases h : l = n
    · subst h
      rw [List.getElem?_append_right (by rw [allP_len]; omega), allP_len, Nat.add_sub_cancel_left]
      unfold ofLen
      simp [hv]
    · have hl' : l < n := by omega
      rw [List.getElem?_append_left (by rw [allP_len]; exact ahead_add_lt b hl' hv)]
      exact allP_get b n l v hl' hv
/-- the ones behind the ones of one length less -/
theorem ofLen_succ {b : Nat} (hb : 0 < b) (l : Nat) : ofLen b (l + 1) = (ofLen b l).flatMap fun p => (List.range b).map fun s => p ++ [s] := by
  unfold ofLen
  have key : ∀ m, (List.range (m * b)).map (digs b (l + 1)) = ((List.range m).map (digs b l)).flatMap fun p => (List.range b).map fun s => p ++ [s] := fun m => by
    induction m with
    | zero => rw [Nat.zero_mul]; rfl
    | succ m ih =>
      rw [Nat.succ_mul, List.range_add, List.map_append, ih, List.range_succ, List.map_append, List.flatMap_append]
      congr 1
      rw [List.map_map, List.map_cons, List.map_nil, List.flatMap_cons, List.flatMap_nil, List.append_nil]
      refine List.map_congr_left fun s hs => ?_
      have hs : s < b := by simpa using hs
      show digs b l ((m * b + s) / b) ++ [(m * b + s) % b] = digs b l m ++ [s]
      have e1 : (m * b + s) / b = m := by rw [Nat.mul_comm, Nat.mul_add_div hb, Nat.div_eq_of_lt hs, Nat.add_zero]
      have e2 : (m * b + s) % b = s := by rw [Nat.mul_comm, Nat.mul_add_mod, Nat.mod_eq_of_lt hs]
      rw [e1, e2]
  rw [Nat.pow_succ]
  exact key (b ^ l)
end K01


set_option Elab.async false
set_option maxRecDepth 10000
/-! k01: what the package's defs tell. -/
namespace K01
open PySem L2 Mi Mi.Pl
section
variable {k : Nat} {g : Gs}
def DP (p : List Nat) : List D := p.map fun (s : Nat) => D.int s
theorem DP_len (p : List Nat) : (DP p).length = p.length := by unfold DP; simp
theorem is_from_to_ok (i lo hi : Int) : Mi.call T (k + 1) 0 [.int i, .int lo, .int hi] g = .ok (.bl (decide (lo ≤ i) && decide (i ≤ hi))) g := by
  rw [call_def d_is_from_to rfl]
  unfold b_is_from_to
  simp [isiD, isiTy, tyOk, cmpD]
  by_cases h : lo ≤ i <;> simp [h]
theorem is_row_tup (xs : List D) : Mi.call T (k + 1) 1 [.tup xs] g = .ok (.bl true) g := by
  rw [call_def d_is_row rfl]
  unfold b_is_row
  simp [isiD, isiTy, tyOk]
theorem is_row_lst (xs : List D) : Mi.call T (k + 1) 1 [.lst xs] g = .ok (.bl true) g := by
  rw [call_def d_is_row rfl]
  unfold b_is_row
  simp [isiD, isiTy, tyOk]
theorem check_number_ok (i lo hi : Int) (h1 : lo ≤ i) (h2 : i ≤ hi) : Mi.call T (k + 2) 2 [.int i, .int lo, .int hi] g = .ok .non g := by
  rw [call_def d_check_number rfl]
  unfold b_check_number
  simp [is_from_to_ok, h1, h2]
def sh (b l : Nat) : D := .tup [.int b, .int l]
/-- a shape in one of its two forms -/
def IsSh (b l : Nat) (d : D) : Prop := d = .tup [.int b, .int l] ∨ d = .lst [.int b, .int l]
structure Good (b l : Nat) : Prop where
  b1 : 2 ≤ b
  b2 : b ≤ 256
  l2 : l ≤ 12
theorem checked_shape_ok {b l : Nat} (G : Good b l) {d : D} (h : IsSh b l d) : Mi.call T (k + 2) 3 [d] g = .ok (sh b l) g := by
  have h1 := G.b1
  have h2 := G.b2
  have h3 := G.l2
  rw [call_def d_checked_shape rfl]
  unfold b_checked_shape
  have e1 : (2 : Int) ≤ (b : Int) := by omega
  have e2 : (b : Int) ≤ 256 := by omega
  have e3 : (0 : Int) ≤ (l : Int) := by omega
  have e4 : (l : Int) ≤ 12 := by omega
  have e5 : 2 ≤ sizeLine := by decide
  rcases h with h | h <;> subst h <;> simp [is_row_tup, is_row_lst, biG, biS, biD, cmpD, eqD, ixG, ixD, atI, ixN, is_from_to_ok, e1, e2, e3, e4, e5, sh]
theorem power_of_ok (b n : Nat) (hb : b ≤ 256) (hn : n ≤ 1000) : Mi.call T (k + 1) 4 [.int b, .int n] g = .ok (.int ((b ^ n : Nat) : Int)) g := by
  rw [call_def d_power_of rfl]
  unfold b_power_of
  have e : smallI (b : Int) = true := smallI_of (by omega) (by omega)
  simp
  rw [forS_rng n (fun j => [some (.val (.int b)), some (.val (.int n)), some (.val (.int ((b ^ j : Nat) : Int))), lv (fun i => .int i) j]) ?_ ?_ ?_]
  · simp
  · rfl
  · exact evJ_rng1 (by simp) (by omega)
  · intro j hj
    simp [opD, e, lv, Int.pow_succ]
end
end K01


set_option Elab.async false
set_option maxRecDepth 10000
/-! k01: what the package's defs tell, further. -/
namespace K01
open PySem L2 Mi Mi.Pl
section
variable {k : Nat} {g : Gs}
/-- a packet of this shape -/
structure Pk (b l : Nat) (p : List Nat) : Prop where
  lt : ∀ s ∈ p, s < b
  le : p.length ≤ l
theorem DP_def (p : List Nat) : DP p = p.map fun (s : Nat) => D.int s := rfl
theorem blsD_map {α : Type} (f : α → Bool) : ∀ xs : List α, blsD (xs.map fun x => D.bl (f x)) = some (xs.map f)
  | [] => rfl
  | x :: xs => by rw [List.map_cons, blsD, blsD_map f xs]; rfl
theorem intsD_map {α : Type} (f : α → Int) : ∀ xs : List α, intsD (xs.map fun x => D.int (f x)) = some (xs.map f)
  | [] => rfl
  | x :: xs => by rw [List.map_cons, intsD, intsD_map f xs]; rfl
theorem is_packet_ok {b l : Nat} {p : List Nat} (G : Good b l) (h : Pk b l p) : Mi.call T (k + 2) 5 [sh b l, .tup (DP p)] g = .ok (.bl true) g := by
  rw [call_def d_is_packet rfl]
  unfold b_is_packet sh
  have h1 := h.le
  have h2 := G.l2
  have e1 : ¬ ((l : Int) < (p.length : Int)) := by omega
  have hc : ∀ ρ : Mi.Env, ρ.get 1 = some (.val (.tup (DP p))) → ρ.get 2 = some (.val (.int b)) → ρ.length = 5 → ev (Mi.call T (k + 1)) (.comp (.nm 4) (.iseq (.nm 1)) (.lit (.bl true)) [4] (.call 0 [(.nm 4), (.lit (.int 0)), (.op .sub (.nm 2) (.lit (.int 1)))])) ρ g = .ok (.lst (p.map fun (s : Nat) => .bl true)) g := fun ρ r1 r2 r3 => by
    refine ev_comp_map p (fun (s : Nat) => .int s) (fun _ => .bl true) (fun s => (ρ.set 4 none).set 4 (some (.val (.int s)))) ?_ ?_ ?_ ?_
    · simp [r1, itemsD, DP]
    · intro s hs; rfl
    · intro s hs
      have hs := h.lt s hs
      have r4 : Env.get ((ρ.set 4 none).set 4 (some (.val (.int s)))) 2 = some (.val (.int b)) := by
        unfold Env.get at r2 ⊢
        rw [List.getElem?_set_ne (by decide), List.getElem?_set_ne (by decide)]; exact r2
      have r5 : Env.get ((ρ.set 4 none).set 4 (some (.val (.int s)))) 4 = some (.val (.int s)) := Mi.get_set_self (by simp [r3])
      have e2 : (s : Int) ≤ (b : Int) - 1 := by omega
      simp [-List.set_set, r4, r5, opD, is_from_to_ok, e2]
    · exact sizeLine_ge (by omega)
  simp [isiD, isiTy, tyOk, biG, biS, biD, cmpD, DP_len, e1]
  rw [hc _ rfl rfl rfl]
  simp [blsD_map (fun _ : Nat => true)]
/-- a packet in one of its two forms -/
def IsPk (p : List Nat) (d : D) : Prop := d = .tup (DP p) ∨ d = .lst (DP p)
theorem checked_packet_ok {b l : Nat} {p : List Nat} {d : D} (G : Good b l) (h : Pk b l p) (hd : IsPk p d) : Mi.call T (k + 3) 6 [sh b l, d] g = .ok (.tup (DP p)) g := by
  rw [call_def d_checked_packet rfl]
  unfold b_checked_packet
  have e1 := is_packet_ok (k := k) (g := g) G h
  rcases hd with hd | hd <;> subst hd <;> simp [is_row_tup, is_row_lst, biG, biS, biD, e1]
theorem sum_pows (b : Nat) : ∀ n, ((List.range n).map fun (j : Nat) => (((b ^ j : Nat)) : Int)).sum = (ahead b n : Int)
  | 0 => rfl
  | n + 1 => by
    rw [List.range_succ, List.map_append, List.sum_append_int, sum_pows b n]
    have e : ahead b (n + 1) = ahead b n + b ^ n := rfl
    rw [e]
    simp
theorem count_all_ok {b l : Nat} (G : Good b l) : Mi.call T (k + 2) 7 [sh b l] g = .ok (.int (ahead b (l + 1))) g := by
  rw [call_def d_count_all rfl]
  unfold b_count_all sh
  have h2 := G.l2
  have h3 := G.b2
  have hc : ∀ ρ : Mi.Env, ρ.get 1 = some (.val (.int b)) → ρ.get 2 = some (.val (.int l)) → ρ.length = 4 → ev (Mi.call T (k + 1)) (.comp (.nm 3) (.irng1 (.op .add (.nm 2) (.lit (.int 1)))) (.lit (.bl true)) [3] (.call 4 [(.nm 1), (.nm 3)])) ρ g = .ok (.lst ((List.range (l + 1)).map fun (j : Nat) => .int ((b ^ j : Nat) : Int))) g := fun ρ r1 r2 r3 => by
    refine ev_comp_map (List.range (l + 1)) (fun (s : Nat) => .int s) (fun j => .int ((b ^ j : Nat) : Int)) (fun s => (ρ.set 3 none).set 3 (some (.val (.int s)))) ?_ ?_ ?_ ?_
    · exact evI_rng1 (by simp [r2, opD]) (by omega)
    · intro s hs; rfl
    · intro s hs
      have hs : s < l + 1 := by simpa using hs
      have r4 : Env.get ((ρ.set 3 none).set 3 (some (.val (.int s)))) 1 = some (.val (.int b)) := by
        unfold Env.get at r1 ⊢
        rw [List.getElem?_set_ne (by decide), List.getElem?_set_ne (by decide)]; exact r1
      have r5 : Env.get ((ρ.set 3 none).set 3 (some (.val (.int s)))) 3 = some (.val (.int s)) := Mi.get_set_self (by simp [r3])
      have e := power_of_ok (k := k) (g := g) b s h3 (by omega)
      simp [-List.set_set, -Int.natCast_pow, r4, r5, e]
    · exact sizeLine_ge (by simp; omega)
  simp [-Int.natCast_pow]
  rw [hc _ rfl rfl rfl]
  have e2 := intsD_map (fun (j : Nat) => ((b ^ j : Nat) : Int)) (List.range (l + 1))
  simp [-Int.natCast_pow, biG, biS, biD, e2, sum_pows]
theorem count_packets_ok {b l : Nat} {d : D} (G : Good b l) (h : IsSh b l d) : Mi.call T (k + 3) 11 [d] g = .ok (.int (ahead b (l + 1))) g := by
  rw [call_def d_count_packets rfl]
  unfold b_count_packets
  have e1 := checked_shape_ok (k := k) (g := g) G h
  have e2 := count_all_ok (k := k) (g := g) G
  simp [e1, e2]
theorem cut_packet_ok {b l n : Nat} {p : List Nat} {d e : D} (G : Good b l) (h : IsSh b l d) (hp : Pk b l p) (he : IsPk p e) (hn : n ≤ p.length) : Mi.call T (k + 4) 16 [d, e, .int n] g = .ok (.tup ((DP p).take n)) g := by
  rw [call_def d_cut_packet rfl]
  unfold b_cut_packet
  have e1 := checked_shape_ok (k := k + 1) (g := g) G h
  have e2 := checked_packet_ok (k := k) (g := g) G hp he
  have e3 := check_number_ok (k := k + 1) (g := g) (n : Int) 0 (p.length : Int) (by omega) (by omega)
  simp [e1, e2, biG, biS, biD, DP_len, e3, partD, slD, cutD_take]
end
end K01


set_option Elab.async false
set_option maxRecDepth 10000
/-! k01: all packets. -/
namespace K01
open PySem L2 Mi Mi.Pl
section
variable {k : Nat} {g : Gs}
def TP (p : List Nat) : D := .tup (DP p)
theorem of_length_ok {b l : Nat} (hb : 0 < b) (hbm : b ≤ 256) (hl : l ≤ 12) (hs : b ^ l ≤ 1000000) : Mi.call T (k + 1) 8 [.int b, .int l] g = .ok (.lst ((ofLen b l).map TP)) g := by
  rw [call_def d_of_length rfl]
  unfold b_of_length
  simp
  rw [forS_rng l (fun j => [some (.val (.int b)), some (.val (.int l)), some (.own ((ofLen b j).map TP)), lv (fun i => .int i) j, none, none]) ?_ ?_ ?_]
  · simp
  · rfl
  · exact evJ_rng1 (by simp) (by omega)
  · intro j hj
    have hlen : ((ofLen b j).flatMap fun p => (List.range b).map fun (s : Nat) => TP (p ++ [s])) = (ofLen b (j + 1)).map TP := by
      rw [ofLen_succ hb, List.map_flatMap]
      simp [Function.comp_def]
    have hle : ((ofLen b (j + 1)).map TP).length ≤ sizeLine := by
      have h1 : b ^ (j + 1) ≤ b ^ l := Nat.pow_le_pow_right hb (by omega)
      refine sizeLine_ge ?_
      unfold ofLen
      simp
      omega
    have e := ev_comp2_map (c := Mi.call T k) (g := g) (ρ := [some (.val (.int b)), some (.val (.int l)), some (.own ((ofLen b j).map TP)), some (.val (.int j)), none, none]) (tg := .nm 4) (tg2 := .nm 5) (it := .iseq (.nm 2)) (it2 := .irng1 (.nm 0)) (own := [4, 5]) (own2 := [5])
      (elt := .op .add (.nm 4) (.tup [(.nm 5)])) (ofLen b j) TP (fun _ => List.range b) (fun (s : Nat) => .int s) (fun p s => TP (p ++ [s]))
      (fun p => [some (.val (.int b)), some (.val (.int l)), some (.own ((ofLen b j).map TP)), some (.val (.int j)), some (.val (TP p)), none])
      (fun p s => [some (.val (.int b)), some (.val (.int l)), some (.own ((ofLen b j).map TP)), some (.val (.int j)), some (.val (TP p)), some (.val (.int s))])
      (by simp [itemsD]) (fun p _ => rfl) (fun p _ => evJ_rng1 (by simp) (by omega)) (fun p _ s _ => rfl) (fun p hp s hs => by
        have hpl : p.length = j := by
          unfold ofLen at hp
          obtain ⟨v, _, rfl⟩ := List.mem_map.mp hp
          exact digs_len b j v
        have h1 : (DP p).length + 1 ≤ sizeLine := by rw [DP_len, hpl]; exact sizeLine_ge (by omega)
        have h2 : 1 ≤ sizeLine := sizeLine_ge (by decide)
        unfold TP at *
        simp [h1, h2, opD]
        unfold DP
        simp) (by rw [hlen]; exact hle)
    rw [hlen] at e
    simp [e, lv]
theorem check_few_ok {b l : Nat} (G : Good b l) (h : ahead b (l + 1) ≤ 5000) : Mi.call T (k + 3) 9 [sh b l] g = .ok .non g := by
  rw [call_def d_check_few rfl]
  unfold b_check_few
  have e1 := count_all_ok (k := k) (g := g) G
  have e2 : ¬ ((5000 : Int) < (ahead b (l + 1) : Int)) := by omega
  simp [e1, cmpD, e2]
theorem allP_flat (b : Nat) : ∀ n, allP b n = (List.range n).flatMap fun l => ofLen b l
  | 0 => rfl
  | n + 1 => by
    rw [List.range_succ, List.flatMap_append, ← allP_flat b n]
    show allP b n ++ ofLen b n = _
    simp
theorem listed_ok {b l : Nat} (G : Good b l) (h : ahead b (l + 1) ≤ 5000) : Mi.call T (k + 4) 10 [sh b l] g = .ok (.lst ((allP b (l + 1)).map TP)) g := by
  rw [call_def d_listed rfl]
  unfold b_listed
  have e1 := check_few_ok (k := k) (g := g) G h
  have h2 := G.l2
  have h3 := G.b1
  have h4 := G.b2
  have hl : ((List.range (l + 1)).flatMap fun i => (ofLen b i).map TP) = (allP b (l + 1)).map TP := by rw [allP_flat, List.map_flatMap]
  have e := ev_comp2_map (c := Mi.call T (k + 3)) (g := g) (ρ := [some (.val (sh b l)), some (.val (.int b)), some (.val (.int l)), none, none]) (tg := .nm 3) (tg2 := .nm 4) (it := .irng1 (.op .add (.nm 2) (.lit (.int 1)))) (it2 := .iseq (.call 8 [(.nm 1), (.nm 3)])) (own := [3, 4]) (own2 := [4])
    (elt := .nm 4) (List.range (l + 1)) (fun (i : Nat) => .int i) (fun i => ofLen b i) TP (fun i p => TP p)
    (fun i => [some (.val (sh b l)), some (.val (.int b)), some (.val (.int l)), some (.val (.int i)), none])
    (fun i p => [some (.val (sh b l)), some (.val (.int b)), some (.val (.int l)), some (.val (.int i)), some (.val (TP p))])
    (evI_rng1 (by simp [opD]) (by omega)) (fun p _ => rfl) (fun i hi => by
      have hi : i < l + 1 := by simpa using hi
      have hp : b ^ i ≤ ahead b (l + 1) := by
        have h1 : ahead b (i + 1) ≤ ahead b (l + 1) := ahead_mono b hi
        have h2 : ahead b (i + 1) = ahead b i + b ^ i := rfl
        omega
      have := of_length_ok (k := k + 2) (g := g) (b := b) (l := i) (by omega) h4 (by omega) (by omega)
      simp [this, itemsD]) (fun p _ s _ => rfl) (fun i hi p hp => by simp) (by rw [hl, List.length_map, allP_len]; exact sizeLine_ge (by omega))
  rw [hl] at e
  simp [e1]
  unfold sh
  simp
  unfold sh at e
  simp [e]
theorem all_packets_ok {b l : Nat} {d : D} (G : Good b l) (hd : IsSh b l d) (h : ahead b (l + 1) ≤ 5000) : Mi.call T (k + 5) 12 [d] g = .ok (.tup ((allP b (l + 1)).map TP)) g := by
  rw [call_def d_all_packets rfl]
  unfold b_all_packets
  have e1 := checked_shape_ok (k := k + 2) (g := g) G hd
  have e2 := listed_ok (k := k) (g := g) G h
  simp [e1, e2, biG, biS, biD]
end
end K01


set_option Elab.async false
set_option maxRecDepth 10000
/-! k01: numbers of packets. -/
namespace K01
open PySem L2 Mi Mi.Pl
section
variable {k : Nat} {g : Gs}
theorem digs_rev (b : Nat) : ∀ m v, digs b m v = ((List.range m).map fun i => v / b ^ i % b).reverse
  | 0, _ => rfl
  | m + 1, v => by
    rw [List.range_succ_eq_map, List.map_cons, List.map_map, List.reverse_cons]
    show digs b m (v / b) ++ [v % b] = _
    rw [digs_rev b m (v / b)]
    congr 2
    · refine List.map_congr_left fun i _ => ?_
      show v / b / b ^ i % b = v / b ^ (i + 1) % b
      rw [Nat.div_div_eq_div_mul, Nat.pow_succ, Nat.mul_comm]
    · simp
theorem packet_of_ok {b l m v : Nat} {d : D} (G : Good b l) (hd : IsSh b l d) (hm : m ≤ l) (hv : v < b ^ m) : Mi.call T (k + 3) 13 [d, .int ((ahead b m + v : Nat) : Int)] g = .ok (TP (digs b m v)) g := by
  rw [call_def d_packet_of rfl]
  unfold b_packet_of
  have h1 := G.b1
  have h2 := G.b2
  have h3 := G.l2
  have e1 := checked_shape_ok (k := k) (g := g) G hd
  have e2 := count_all_ok (k := k) (g := g) G
  have hlt := ahead_add_lt b (l := m) (n := l + 1) (by omega) hv
  have e3 := check_number_ok (k := k) (g := g) ((ahead b m + v : Nat) : Int) 0 ((ahead b (l + 1) : Int) - 1) (by omega) (by omega)
  unfold sh at e1 e2
  simp [-Int.natCast_add, e1, e2, e3]
  rw [exS_whl m (fun j => [some (.val d), some (.val (.int ((ahead b m - ahead b j + v : Nat) : Int))), some (.val (.int b)), some (.val (.int l)), some (.val (.int j)), none, none]) ?_ (by omega) ?_ ?_ ?_ ?_]
  · simp [-Int.natCast_add]
    rw [forS_rng m (fun j => [some (.val d), some (.val (.int ((v / b ^ j : Nat) : Int))), some (.val (.int b)), some (.val (.int l)), some (.val (.int m)), some (.own ((List.range j).map fun i => .int ((v / b ^ i % b : Nat) : Int))), lv (fun i => .int i) j]) ?_ ?_ ?_]
    · simp [biG, biS, biD]
      unfold TP DP
      rw [digs_rev]
      simp
    · simp [lv]
    · exact evJ_rng1 (by simp) (by omega)
    · intro j hj
      have e5 : 0 < b := by omega
      have e6 : j < sizeLine := Nat.lt_of_lt_of_le (m := 1000000) (by omega) (by decide)
      have e7 : (b : Int) < 18446744073709551616 := by omega
      have e8 : ((v / b ^ j : Nat) : Int) / (b : Int) = ((v / b ^ (j + 1) : Nat) : Int) := by rw [← Int.natCast_ediv, Nat.div_div_eq_div_mul, Nat.pow_succ]
      have e9 : ((v / b ^ j : Nat) : Int) % (b : Int) = ((v / b ^ j % b : Nat) : Int) := rfl
      simp [e5, e6, e7, e8, e9, -Int.natCast_ediv, -Int.natCast_emod, -Int.natCast_pow, lv, List.range_succ]
  · have z : ahead b 0 = 0 := rfl
    simp [z]
  · intro j hj; rfl
  · intro j hj
    have e5 := power_of_ok (k := k + 1) (g := g) b j h2 (by omega)
    have h4 : ahead b (j + 1) ≤ ahead b m := ahead_mono b hj
    have h5 : ahead b (j + 1) = ahead b j + b ^ j := rfl
    have e6 : ((b ^ j : Nat) : Int) ≤ ((ahead b m - ahead b j + v : Nat) : Int) := by omega
    simp [e5, e6, -Int.natCast_pow, -Int.natCast_add]
  · intro j hj
    have e5 := power_of_ok (k := k + 1) (g := g) b j h2 (by omega)
    have h4 : ahead b (j + 1) ≤ ahead b m := ahead_mono b hj
    have h5 : ahead b (j + 1) = ahead b j + b ^ j := rfl
    have e6 : ((ahead b m - ahead b j + v : Nat) : Int) - ((b ^ j : Nat) : Int) = ((ahead b m - ahead b (j + 1) + v : Nat) : Int) := by omega
    simp [e5, e6, onInts, -Int.natCast_pow, -Int.natCast_add]
    omega
  · have e5 := power_of_ok (k := k + 1) (g := g) b m h2 (by omega)
    have e6 : ¬ ((b ^ m : Nat) : Int) ≤ ((ahead b m - ahead b m + v : Nat) : Int) := by omega
    simp [e5, -Int.natCast_pow, -Int.natCast_add]
    exact hv
end
end K01


set_option Elab.async false
set_option maxRecDepth 10000
/-! k01: numbers of packets, further; the law's own defs. -/
namespace K01
open PySem L2 Mi Mi.Pl
section
variable {k : Nat} {g : Gs}
theorem val_take_succ (b : Nat) (p : List Nat) (j : Nat) (h : j < p.length) : val b (p.take (j + 1)) = val b (p.take j) * b + p[j] := by
  rw [List.take_succ_eq_append_getElem h, val_app]
theorem number_of_ok {b l : Nat} {p : List Nat} {d e : D} (G : Good b l) (hd : IsSh b l d) (hp : Pk b l p) (he : IsPk p e) : Mi.call T (k + 4) 14 [d, e] g = .ok (.int ((ahead b p.length + val b p : Nat) : Int)) g := by
  rw [call_def d_number_of rfl]
  unfold b_number_of
  have h1 := G.b1
  have h2 := G.b2
  have h3 := G.l2
  have h4 := hp.le
  have e1 := checked_shape_ok (k := k + 1) (g := g) G hd
  have e2 := checked_packet_ok (k := k) (g := g) G hp he
  unfold sh at e1 e2
  simp [e1, e2]
  rw [forS_seq (DP p) (fun j => [some (.val d), some (.val e), some (.val (.tup [.int b, .int l])), some (.val (.int b)), some (.val (.int l)), some (.val (.tup (DP p))), some (.val (.int (val b (p.take j)))), lv (fun i => (DP p)[i]?.getD .non) j, none]) ?_ ?_ ?_]
  · have hc := ev_comp_map (c := Mi.call T (k + 3)) (g := g) (ρ := [some (.val d), some (.val e), some (.val (.tup [.int b, .int l])), some (.val (.int b)), some (.val (.int l)), some (.val (.tup (DP p))), some (.val (.int (val b p))), lv (fun i => (DP p)[i]?.getD .non) p.length, none])
      (tg := .nm 8) (it := .irng1 (.bi .len [(.nm 5)])) (own := [8]) (elt := .call 4 [(.nm 3), (.nm 8)]) (List.range p.length) (fun (s : Nat) => .int s) (fun j => .int ((b ^ j : Nat) : Int))
      (fun s => [some (.val d), some (.val e), some (.val (.tup [.int b, .int l])), some (.val (.int b)), some (.val (.int l)), some (.val (.tup (DP p))), some (.val (.int (val b p))), lv (fun i => (DP p)[i]?.getD .non) p.length, some (.val (.int s))])
      (evI_rng1 (by simp [biG, biS, biD, DP_len]) (by omega)) (fun s _ => rfl) (fun s hs => by
        have hs : s < p.length := by simpa using hs
        have := power_of_ok (k := k + 2) (g := g) b s h2 (by omega)
        simp [this, -Int.natCast_pow]) (sizeLine_ge (by simp; omega))
    have e3 := intsD_map (fun (j : Nat) => ((b ^ j : Nat) : Int)) (List.range p.length)
    simp [DP_len, hc, bi_sum e3, sum_pows, -Int.natCast_pow]
    omega
  · rfl
  · simp [itemsD]
  · intro j hj
    have hj' : j < p.length := by rw [DP_len] at hj; exact hj
    have e5 : smallI (b : Int) = true := smallI_of (by omega) (by omega)
    have e7 : (DP p)[j]? = some (.int (p[j] : Nat)) := by unfold DP; simp [hj']
    have e6 : (DP p)[j] = .int (p[j] : Nat) := Option.some.inj ((List.getElem?_eq_getElem hj).symm.trans e7)
    simp [e5, e6, e7, val_take_succ b p j hj', lv]
theorem num_lt {b l : Nat} {p : List Nat} (G : Good b l) (hp : Pk b l p) : ahead b p.length + val b p < ahead b (l + 1) :=
  ahead_add_lt b (Nat.lt_succ_of_le hp.le) (val_lt (by have := G.b1; omega) p hp.lt)
/-- what next_packet tells: the packet of the next number, if there is one -/
def nextP (b l n : Nat) : D := match (allP b (l + 1))[n + 1]? with
  | some q => TP q
  | none => .non
theorem next_packet_ok {b l : Nat} {p : List Nat} {d e : D} (G : Good b l) (hd : IsSh b l d) (hp : Pk b l p) (he : IsPk p e) : Mi.call T (k + 5) 15 [d, e] g = .ok (nextP b l (ahead b p.length + val b p)) g := by
  rw [call_def d_next_packet rfl]
  unfold b_next_packet
  have e1 := checked_shape_ok (k := k + 2) (g := g) G hd
  have e2 := number_of_ok (k := k) (g := g) G (.inl rfl) hp he
  have e3 := count_all_ok (k := k + 2) (g := g) G
  have h1 := num_lt G hp
  unfold sh at e1 e3
  unfold nextP
  by_cases h : ahead b p.length + val b p + 1 < ahead b (l + 1)
  · obtain ⟨m, v, h3, h4, h5⟩ := split_num b (l + 1) _ h
    have e4 := packet_of_ok (k := k + 1) (g := g) (b := b) (l := l) (m := m) (v := v) G (.inl rfl) (by omega) h4
    rw [← h5] at e4
    have e5 : (((ahead b p.length + val b p : Nat) : Int) + 1 < (ahead b (l + 1) : Int)) := by omega
    have e6 : ((ahead b p.length + val b p : Nat) : Int) + 1 = ((ahead b p.length + val b p + 1 : Nat) : Int) := rfl
    rw [h5, allP_get b (l + 1) m v h3 h4]
    simp [-Int.natCast_add, e1, e2, e3, e5]
    rw [e6, e4]
    simp
  · have e5 : ¬ (((ahead b p.length + val b p : Nat) : Int) + 1 < (ahead b (l + 1) : Int)) := by omega
    rw [List.getElem?_eq_none (by rw [allP_len]; omega)]
    simp [-Int.natCast_add, e1, e2, e3, e5]
end
end K01


set_option Elab.async false
set_option maxRecDepth 10000
set_option linter.unusedSimpArgs false
/-! k01: what the law's own defs tell that draw nothing: alike, told, raised, asked. -/
namespace K01
open PySem L2 Mi Mi.Pl
section
variable {k : Nat} {g : Gs}
/-- what _law_same can look through, n deep -/
def okD : Nat → D → Bool
  | 0, _ => false
  | n + 1, d => match d with
    | .tup xs => decide (xs.length ≤ 1000000) && xs.all (okD n)
    | .lst xs => decide (xs.length ≤ 1000000) && xs.all (okD n)
    | .int _ => true
    | .bl _ => true
    | .str _ => true
    | .non => true
    | _ => false
theorem same_seq {n : Nat} {xs : List D} {d : D} (hd : d = .tup xs ∨ d = .lst xs) (hl : xs.length ≤ 1000000) (h : ∀ x ∈ xs, Mi.call T (k + n) 19 [x, x] g = .ok (.bl true) g) : Mi.call T (k + (n + 1)) 19 [d, d] g = .ok (.bl true) g := by
  rw [← Nat.add_assoc, call_def d_law_same rfl]
  unfold b_law_same
  have key : ∀ d : D, (d = .tup xs ∨ d = .lst xs) → exS (Mi.call T (k + n)) (.forS (.nm 2) (.irng1 (.bi .len [(.nm 1)])) [.ife (.tnot (.call 19 [(.ix (.nm 0) (.nm 2)), (.ix (.nm 1) (.nm 2))])) [.ret (.lit (.bl false))] []]) [some (.val d), some (.val d), none] g = .nx [some (.val d), some (.val d), lv (fun i => .int i) xs.length] g := fun d hd => by
    refine forS_rng xs.length (fun j => [some (.val d), some (.val d), lv (fun i => .int i) j]) rfl (evJ_rng1 ?_ hl) fun j hj => ?_
    · rcases hd with hd | hd <;> subst hd <;> simp
    · have e1 := h xs[j] (List.getElem_mem hj)
      have e2 : atI xs (j : Int) = some xs[j] := by rw [Mi.Pl.atI_nat, List.getElem?_eq_getElem hj]
      rcases hd with hd | hd <;> subst hd <;> simp [e1, e2, lv]
  have k2 := key d hd
  rcases hd with hd | hd <;> subst hd <;> simp [k2]
theorem same_ok : ∀ n d, okD n d = true → Mi.call T (k + n) 19 [d, d] g = .ok (.bl true) g
  | 0, _, h => by cases h
  | n + 1, d, h => by
    unfold okD at h
    split at h
    · rw [Bool.and_eq_true] at h
      exact same_seq (.inl rfl) (of_decide_eq_true h.1) fun x hx => same_ok n x (List.all_eq_true.mp h.2 x hx)
    · rw [Bool.and_eq_true] at h
      exact same_seq (.inr rfl) (of_decide_eq_true h.1) fun x hx => same_ok n x (List.all_eq_true.mp h.2 x hx)
    · rw [← Nat.add_assoc, call_def d_law_same rfl]
      unfold b_law_same
      simp
    · rename_i b
      rw [← Nat.add_assoc, call_def d_law_same rfl]
      unfold b_law_same
      have e : cmpD .eq (.bl b) (.bl b) = some true := by simp [cmpD, eqD]
      simp [e]
    · rename_i x
      rw [← Nat.add_assoc, call_def d_law_same rfl]
      unfold b_law_same
      have e : cmpD .eq (.str x) (.str x) = some true := by simp [cmpD, eqD]
      simp [e]
    · rw [← Nat.add_assoc, call_def d_law_same rfl]
      unfold b_law_same
      simp [isNon]
    · cases h
theorem told_ok {n : Nat} {d : D} (h : okD n d = true) : Mi.call T (k + n + 1) 20 [.tup [.str "told", d], d] g = .ok (.bl true) g := by
  rw [call_def d_law_told rfl]
  unfold b_law_told
  simp [same_ok n d h]
def kindOk (x : Str) : Bool := SeqAt.shaped (.list [.str x])
theorem eq_one {x : Str} (h : kindOk x = true) : cmpD .eq (.lst [.str x]) (.lst [.str x]) = some true := by
  show eqD (.lst [.str x]) (.lst [.str x]) = some true
  have e : D.toP (.lst [.str x]) = some (.list [.str x]) := (rfl)
  unfold eqD
  simp only [e]
  rw [if_pos ⟨h, h⟩]
  have q : PyData.eqv (.list [.str x]) (.list [.str x]) = true := by
    simp [PyData.eqv, PyData.eqvAll]
  rw [q]
theorem kind0 : kindOk "shape" = true := by decide +kernel
theorem kind1 : kindOk "packet" = true := by decide +kernel
theorem kind2 : kindOk "number" = true := by decide +kernel
theorem kind9 : kindOk "many" = true := by decide +kernel
theorem raised_ok {n : Nat} {d : D} {kd : Str} (hk : kindOk kd = true) (h : okD n d = true) : Mi.call T (k + n + 1) 21 [.tup [.str "raised", .lst [.str kd], d], .str kd, d] g = .ok (.bl true) g := by
  rw [call_def d_law_raised rfl]
  unfold b_law_raised
  have e2 : atI [.str "raised", .lst [.str kd], d] 2 = some d := (rfl)
  have e1 : ixG g (.tup [.str "raised", .lst [.str kd], d]) (.int 1) = some (.lst [.str kd]) := (rfl)
  have e0 : ixG g (.tup [.str "raised", .lst [.str kd], d]) (.int 0) = some (.str "raised") := (rfl)
  simp [same_ok n d h, eq_one hk, e0, e1, e2]
/-! ### what _law_same looks through -/
theorem okD_DP (n : Nat) {p : List Nat} : (DP p).all (okD (n + 1)) = true := by
  unfold DP
  rw [List.all_map, List.all_eq_true]
  intro x _
  rfl
theorem okD_TP (n : Nat) {p : List Nat} (h : p.length ≤ 1000000) : okD (n + 2) (TP p) = true := by
  unfold TP
  show (decide ((DP p).length ≤ 1000000) && (DP p).all (okD (n + 1))) = true
  rw [okD_DP, DP_len]
  simp [h]
theorem okD_LP (n : Nat) {p : List Nat} (h : p.length ≤ 1000000) : okD (n + 2) (.lst (DP p)) = true := by
  show (decide ((DP p).length ≤ 1000000) && (DP p).all (okD (n + 1))) = true
  rw [okD_DP, DP_len]
  simp [h]
mutual
theorem okD_noX : ∀ {n : Nat} {d : D}, okD n d = true → d.noX = true
  | 0, _, h => by cases h
  | n + 1, .tup xs, h => by
    unfold okD at h
    unfold D.noX
    rw [Bool.and_eq_true] at h
    exact okDs_noX h.2
  | n + 1, .lst xs, h => by
    unfold okD at h
    unfold D.noX
    rw [Bool.and_eq_true] at h
    exact okDs_noX h.2
  | n + 1, .int _, _ => rfl
  | n + 1, .bl _, _ => rfl
  | n + 1, .str _, _ => rfl
  | n + 1, .non, _ => rfl
  | n + 1, .st, h => by cases h
  | n + 1, .sub _, h => by cases h
  | n + 1, .scr _, h => by cases h
  | n + 1, .exn _ _, h => by cases h
theorem okDs_noX : ∀ {n : Nat} {ds : List D}, ds.all (okD n) = true → D.noXs ds = true
  | _, [], _ => by unfold D.noXs; rfl
  | n, d :: ds, h => by
    rw [List.all_cons, Bool.and_eq_true] at h
    unfold D.noXs
    rw [okD_noX h.1, okDs_noX h.2]
    rfl
end
/-! ### the handlers -/
def kindOf (c : Nat) : Str := (["shape", "packet", "number", "value", "program", "source", "rules", "text", "line", "many", "undefined", "nothing", "refused"] : List Str).getD c ""
theorem kinds_ok {c : Nat} {fs : List D} (h : c = 0 ∨ c = 1 ∨ c = 2 ∨ c = 9) : Mi.call T (k + 1) 17 [.exn c fs] g = .ok (.lst [.str (kindOf c)]) g := by
  rw [call_def d_law_kinds rfl]
  unfold b_law_kinds
  have sl : 0 < sizeLine := by decide
  rcases h with rfl | rfl | rfl | rfl <;> simp [isSub, kindOf, sl]
theorem kept_ok {c : Nat} {d : D} (h : c = 0 ∨ c = 1 ∨ c = 2 ∨ c = 9) : Mi.call T (k + 1) 18 [.exn c [d], .str (kindOf c)] g = .ok d g := by
  rw [call_def d_law_kept rfl]
  unfold b_law_kept
  have n1 : (("packet" : Str) == "shape") = false := by decide +kernel
  have n2 : (("number" : Str) == "shape") = false := by decide +kernel
  have n3 : (("number" : Str) == "packet") = false := by decide +kernel
  have n4 : (("many" : Str) == "shape") = false := by decide +kernel
  have n5 : (("many" : Str) == "packet") = false := by decide +kernel
  have n6 : (("many" : Str) == "number") = false := by decide +kernel
  have n7 : (("many" : Str) == "value") = false := by decide +kernel
  have n8 : (("many" : Str) == "refused") = false := by decide +kernel
  have n9 : cmpD .mem (.str "many") (.tup [.str "program", .str "source", .str "rules", .str "text", .str "line"]) = some false := by decide +kernel
  rcases h with rfl | rfl | rfl | rfl <;> simp [kindOf, n1, n2, n3, n4, n5, n6, n7, n8, n9, List.lookup]
end
end K01


set_option Elab.async false
set_option maxRecDepth 10000
set_option linter.unusedSimpArgs false
set_option linter.unusedVariables false
/-! k01: asking: what is told, what is raised. -/
namespace K01
open PySem L2 Mi Mi.Pl
section
variable {k : Nat} {g : Gs}
/-- the clause -/
theorem clause {a b c x n : D} {j : Nat} (hj : j = 0 ∨ j = 1 ∨ j = 2 ∨ j = 9) (hx : x.noX = true) : SR.out (exL (Mi.call T (k + 1)) [.asg 5 (.call 17 [(.nm 4)]),
    .ret (.tup [(.lit (.str "raised")), (.nm 5), (.ite (.cmp .eq (.bi .len [(.nm 5)]) (.lit (.int 1))) (.call 18 [(.nm 4), (.ix (.nm 5) (.lit (.int 0)))]) (.lit .non))])] [some (.val n), some (.val a), some (.val b), some (.val c), some (.val (.exn j [x])), none] g) 4 = .rt (.tup [.str "raised", .lst [.str (kindOf j)], x]) g := by
  have sl : 3 ≤ sizeLine := by decide
  have e1 := kinds_ok (k := k) (g := g) (fs := [x]) hj
  have e2 := kept_ok (k := k) (g := g) (d := x) hj
  simp [e1, e2, sl, D.noX, D.noXs, hx]
theorem ask_count {a b c r : D} (h : Mi.call T k 11 [a] g = .ok r g) : Mi.call T (k + 1) 24 [.str "count_packets", a, b, c] g = .ok (.tup [.str "told", r]) g := by
  rw [call_def d_law_ask rfl]
  unfold b_law_ask
  have sl : 2 ≤ sizeLine := by decide
  simp [h, sl]
theorem bad_count {a b c x : D} {j : Nat} (hj : j = 0 ∨ j = 1 ∨ j = 2 ∨ j = 9) (hx : x.noX = true) (h : Mi.call T (k + 1) 11 [a] g = .ex ⟨j, [x]⟩ g) : Mi.call T (k + 2) 24 [.str "count_packets", a, b, c] g = .ok (.tup [.str "raised", .lst [.str (kindOf j)], x]) g := by
  rw [call_def d_law_ask rfl]
  unfold b_law_ask
  have hs : isSub j 100 = true := by rcases hj with rfl | rfl | rfl | rfl <;> rfl
  rw [exL_cons, try_ex (e := ⟨j, [x]⟩) (g1 := g) (ρ1 := [some (.val (.str "count_packets")), some (.val a), some (.val b), some (.val c), none, none]) ?_ hs (clause (k := k) (g := g) (a := a) (b := b) (c := c) (n := .str "count_packets") hj hx)]
  · simp
  · simp [h]
theorem ask_all {a b c r : D} (h : Mi.call T k 12 [a] g = .ok r g) : Mi.call T (k + 1) 24 [.str "all_packets", a, b, c] g = .ok (.tup [.str "told", r]) g := by
  rw [call_def d_law_ask rfl]
  unfold b_law_ask
  have n1 : (("all_packets" : Str) == "count_packets") = false := by decide +kernel
  have sl : 2 ≤ sizeLine := by decide
  simp [h, sl, n1]
theorem bad_all {a b c x : D} {j : Nat} (hj : j = 0 ∨ j = 1 ∨ j = 2 ∨ j = 9) (hx : x.noX = true) (h : Mi.call T (k + 1) 12 [a] g = .ex ⟨j, [x]⟩ g) : Mi.call T (k + 2) 24 [.str "all_packets", a, b, c] g = .ok (.tup [.str "raised", .lst [.str (kindOf j)], x]) g := by
  rw [call_def d_law_ask rfl]
  unfold b_law_ask
  have n1 : (("all_packets" : Str) == "count_packets") = false := by decide +kernel
  have hs : isSub j 100 = true := by rcases hj with rfl | rfl | rfl | rfl <;> rfl
  rw [exL_cons, try_ex (e := ⟨j, [x]⟩) (g1 := g) (ρ1 := [some (.val (.str "all_packets")), some (.val a), some (.val b), some (.val c), none, none]) ?_ hs (clause (k := k) (g := g) (a := a) (b := b) (c := c) (n := .str "all_packets") hj hx)]
  · simp
  · simp [h, n1]
theorem ask_packet {a b c r : D} (h : Mi.call T k 13 [a, b] g = .ok r g) : Mi.call T (k + 1) 24 [.str "packet_of", a, b, c] g = .ok (.tup [.str "told", r]) g := by
  rw [call_def d_law_ask rfl]
  unfold b_law_ask
  have n1 : (("packet_of" : Str) == "count_packets") = false := by decide +kernel
  have n2 : (("packet_of" : Str) == "all_packets") = false := by decide +kernel
  have sl : 2 ≤ sizeLine := by decide
  simp [h, sl, n1, n2]
theorem bad_packet {a b c x : D} {j : Nat} (hj : j = 0 ∨ j = 1 ∨ j = 2 ∨ j = 9) (hx : x.noX = true) (h : Mi.call T (k + 1) 13 [a, b] g = .ex ⟨j, [x]⟩ g) : Mi.call T (k + 2) 24 [.str "packet_of", a, b, c] g = .ok (.tup [.str "raised", .lst [.str (kindOf j)], x]) g := by
  rw [call_def d_law_ask rfl]
  unfold b_law_ask
  have n1 : (("packet_of" : Str) == "count_packets") = false := by decide +kernel
  have n2 : (("packet_of" : Str) == "all_packets") = false := by decide +kernel
  have hs : isSub j 100 = true := by rcases hj with rfl | rfl | rfl | rfl <;> rfl
  rw [exL_cons, try_ex (e := ⟨j, [x]⟩) (g1 := g) (ρ1 := [some (.val (.str "packet_of")), some (.val a), some (.val b), some (.val c), none, none]) ?_ hs (clause (k := k) (g := g) (a := a) (b := b) (c := c) (n := .str "packet_of") hj hx)]
  · simp
  · simp [h, n1, n2]
theorem ask_number {a b c r : D} (h : Mi.call T k 14 [a, b] g = .ok r g) : Mi.call T (k + 1) 24 [.str "number_of", a, b, c] g = .ok (.tup [.str "told", r]) g := by
  rw [call_def d_law_ask rfl]
  unfold b_law_ask
  have n1 : (("number_of" : Str) == "count_packets") = false := by decide +kernel
  have n2 : (("number_of" : Str) == "all_packets") = false := by decide +kernel
  have n3 : (("number_of" : Str) == "packet_of") = false := by decide +kernel
  have sl : 2 ≤ sizeLine := by decide
  simp [h, sl, n1, n2, n3]
theorem bad_number {a b c x : D} {j : Nat} (hj : j = 0 ∨ j = 1 ∨ j = 2 ∨ j = 9) (hx : x.noX = true) (h : Mi.call T (k + 1) 14 [a, b] g = .ex ⟨j, [x]⟩ g) : Mi.call T (k + 2) 24 [.str "number_of", a, b, c] g = .ok (.tup [.str "raised", .lst [.str (kindOf j)], x]) g := by
  rw [call_def d_law_ask rfl]
  unfold b_law_ask
  have n1 : (("number_of" : Str) == "count_packets") = false := by decide +kernel
  have n2 : (("number_of" : Str) == "all_packets") = false := by decide +kernel
  have n3 : (("number_of" : Str) == "packet_of") = false := by decide +kernel
  have hs : isSub j 100 = true := by rcases hj with rfl | rfl | rfl | rfl <;> rfl
  rw [exL_cons, try_ex (e := ⟨j, [x]⟩) (g1 := g) (ρ1 := [some (.val (.str "number_of")), some (.val a), some (.val b), some (.val c), none, none]) ?_ hs (clause (k := k) (g := g) (a := a) (b := b) (c := c) (n := .str "number_of") hj hx)]
  · simp
  · simp [h, n1, n2, n3]
theorem ask_next {a b c r : D} (h : Mi.call T k 15 [a, b] g = .ok r g) : Mi.call T (k + 1) 24 [.str "next_packet", a, b, c] g = .ok (.tup [.str "told", r]) g := by
  rw [call_def d_law_ask rfl]
  unfold b_law_ask
  have n1 : (("next_packet" : Str) == "count_packets") = false := by decide +kernel
  have n2 : (("next_packet" : Str) == "all_packets") = false := by decide +kernel
  have n3 : (("next_packet" : Str) == "packet_of") = false := by decide +kernel
  have n4 : (("next_packet" : Str) == "number_of") = false := by decide +kernel
  have sl : 2 ≤ sizeLine := by decide
  simp [h, sl, n1, n2, n3, n4]
theorem bad_next {a b c x : D} {j : Nat} (hj : j = 0 ∨ j = 1 ∨ j = 2 ∨ j = 9) (hx : x.noX = true) (h : Mi.call T (k + 1) 15 [a, b] g = .ex ⟨j, [x]⟩ g) : Mi.call T (k + 2) 24 [.str "next_packet", a, b, c] g = .ok (.tup [.str "raised", .lst [.str (kindOf j)], x]) g := by
  rw [call_def d_law_ask rfl]
  unfold b_law_ask
  have n1 : (("next_packet" : Str) == "count_packets") = false := by decide +kernel
  have n2 : (("next_packet" : Str) == "all_packets") = false := by decide +kernel
  have n3 : (("next_packet" : Str) == "packet_of") = false := by decide +kernel
  have n4 : (("next_packet" : Str) == "number_of") = false := by decide +kernel
  have hs : isSub j 100 = true := by rcases hj with rfl | rfl | rfl | rfl <;> rfl
  rw [exL_cons, try_ex (e := ⟨j, [x]⟩) (g1 := g) (ρ1 := [some (.val (.str "next_packet")), some (.val a), some (.val b), some (.val c), none, none]) ?_ hs (clause (k := k) (g := g) (a := a) (b := b) (c := c) (n := .str "next_packet") hj hx)]
  · simp
  · simp [h, n1, n2, n3, n4]
theorem ask_cut {a b c r : D} (h : Mi.call T k 16 [a, b, c] g = .ok r g) : Mi.call T (k + 1) 24 [.str "cut_packet", a, b, c] g = .ok (.tup [.str "told", r]) g := by
  rw [call_def d_law_ask rfl]
  unfold b_law_ask
  have n1 : (("cut_packet" : Str) == "count_packets") = false := by decide +kernel
  have n2 : (("cut_packet" : Str) == "all_packets") = false := by decide +kernel
  have n3 : (("cut_packet" : Str) == "packet_of") = false := by decide +kernel
  have n4 : (("cut_packet" : Str) == "number_of") = false := by decide +kernel
  have n5 : (("cut_packet" : Str) == "next_packet") = false := by decide +kernel
  have sl : 2 ≤ sizeLine := by decide
  simp [h, sl, n1, n2, n3, n4, n5]
theorem bad_cut {a b c x : D} {j : Nat} (hj : j = 0 ∨ j = 1 ∨ j = 2 ∨ j = 9) (hx : x.noX = true) (h : Mi.call T (k + 1) 16 [a, b, c] g = .ex ⟨j, [x]⟩ g) : Mi.call T (k + 2) 24 [.str "cut_packet", a, b, c] g = .ok (.tup [.str "raised", .lst [.str (kindOf j)], x]) g := by
  rw [call_def d_law_ask rfl]
  unfold b_law_ask
  have n1 : (("cut_packet" : Str) == "count_packets") = false := by decide +kernel
  have n2 : (("cut_packet" : Str) == "all_packets") = false := by decide +kernel
  have n3 : (("cut_packet" : Str) == "packet_of") = false := by decide +kernel
  have n4 : (("cut_packet" : Str) == "number_of") = false := by decide +kernel
  have n5 : (("cut_packet" : Str) == "next_packet") = false := by decide +kernel
  have hs : isSub j 100 = true := by rcases hj with rfl | rfl | rfl | rfl <;> rfl
  rw [exL_cons, try_ex (e := ⟨j, [x]⟩) (g1 := g) (ρ1 := [some (.val (.str "cut_packet")), some (.val a), some (.val b), some (.val c), none, none]) ?_ hs (clause (k := k) (g := g) (a := a) (b := b) (c := c) (n := .str "cut_packet") hj hx)]
  · simp
  · simp [h, n1, n2, n3, n4, n5]
end
end K01


set_option Elab.async false
set_option maxRecDepth 10000
set_option linter.unusedSimpArgs false
/-! k01: what the package's defs refuse. -/
namespace K01
open PySem L2 Mi Mi.Pl
section
variable {k : Nat} {g : Gs}
/-- a whole number from lo to hi -/
def frm (d : D) (lo hi : Int) : Bool := match d with
  | .int i => decide (lo ≤ i) && decide (i ≤ hi)
  | _ => false
/-- a value such as a law hands in -/
def plainV : D → Bool
  | .st | .sub _ | .scr _ | .exn _ _ => false
  | _ => true
theorem okD_plain {n : Nat} {d : D} (h : okD n d = true) : plainV d = true := by
  cases n with
  | zero => cases h
  | succ n => cases d <;> first | rfl | cases h
theorem is_from_to_gen {d : D} (hd : plainV d = true) (lo hi : Int) : Mi.call T (k + 1) 0 [d, .int lo, .int hi] g = .ok (.bl (frm d lo hi)) g := by
  cases d with
  | int i => exact is_from_to_ok i lo hi
  | st => cases hd
  | sub j => cases hd
  | scr j => cases hd
  | exn j fs => cases hd
  | _ =>
    rw [call_def d_is_from_to rfl]
    unfold b_is_from_to
    simp [isiD, isiTy, tyOk, frm]
def isRow : D → Bool
  | .tup _ | .lst _ => true
  | _ => false
theorem is_row_gen {d : D} (hd : plainV d = true) : Mi.call T (k + 1) 1 [d] g = .ok (.bl (isRow d)) g := by
  cases d with
  | st => cases hd
  | sub j => cases hd
  | scr j => cases hd
  | exn j fs => cases hd
  | _ =>
    rw [call_def d_is_row rfl]
    unfold b_is_row
    simp [isiD, isiTy, tyOk, isRow]
theorem check_number_bad {d : D} (hd : plainV d = true) {lo hi : Int} (h : frm d lo hi = false) : Mi.call T (k + 2) 2 [d, .int lo, .int hi] g = .ex ⟨2, [d]⟩ g := by
  rw [call_def d_check_number rfl]
  unfold b_check_number
  simp [is_from_to_gen hd, h]
/-- a right shape -/
def shOk : D → Bool
  | .tup [a, b] => frm a 2 256 && frm b 0 12
  | .lst [a, b] => frm a 2 256 && frm b 0 12
  | _ => false
def rowOfD : D → List D
  | .tup xs => xs
  | .lst xs => xs
  | _ => []
theorem len_row {d : D} (h : isRow d = true) : biG g .len [d] = some (.int (rowOfD d).length) := by
  cases d <;> first | rfl | cases h
theorem ix_row {d : D} (h : isRow d = true) (i : Nat) {x : D} (e : (rowOfD d)[i]? = some x) : ixG g d (.int (i : Int)) = some x := by
  cases d with
  | tup xs =>
    show atI xs (i : Int) = some x
    rw [Mi.Pl.atI_nat]; exact e
  | lst xs =>
    show atI xs (i : Int) = some x
    rw [Mi.Pl.atI_nat]; exact e
  | _ => cases h
theorem checked_shape_bad {d : D} (hd : plainV d = true) (hx : ∀ x ∈ rowOfD d, plainV x = true) (h : shOk d = false) : Mi.call T (k + 2) 3 [d] g = .ex ⟨0, [d]⟩ g := by
  rw [call_def d_checked_shape rfl]
  unfold b_checked_shape
  cases hr : isRow d with
  | false => simp [is_row_gen hd, hr]
  | true =>
    have e1 := len_row (g := g) hr
    by_cases hl : (rowOfD d).length = 2
    · obtain ⟨a, b, hab⟩ : ∃ a b, rowOfD d = [a, b] := by
        match hq : rowOfD d, hl with
        | [a, b], _ => exact ⟨a, b, rfl⟩
      have pa := hx a (by rw [hab]; simp)
      have pb := hx b (by rw [hab]; simp)
      have i0 : ixG g d (.int 0) = some a := ix_row hr 0 (by rw [hab]; rfl)
      have i1 : ixG g d (.int 1) = some b := ix_row hr 1 (by rw [hab]; rfl)
      have hq : (frm a 2 256 && frm b 0 12) = false := by
        cases d with
        | tup xs => cases hab; exact h
        | lst xs => cases hab; exact h
        | _ => cases hr
      rw [hab] at e1
      cases ha : frm a 2 256 with
      | false => simp [is_row_gen hd, hr, e1, i0, i1, is_from_to_gen pa, ha]
      | true =>
        have hb : frm b 0 12 = false := by rw [ha] at hq; simpa using hq
        simp [is_row_gen hd, hr, e1, i0, i1, is_from_to_gen pa, is_from_to_gen pb, ha, hb]
    · have hl2 : ((((rowOfD d).length : Nat) : Int) == 2) = false := by
        have : ¬ (((rowOfD d).length : Int) = 2) := by omega
        simpa using this
      simp [is_row_gen hd, hr, e1, hl2]
/-- a right packet -/
def pkOk (b l : Nat) : D → Bool
  | .tup xs => decide (xs.length ≤ l) && xs.all fun x => frm x 0 ((b : Int) - 1)
  | .lst xs => decide (xs.length ≤ l) && xs.all fun x => frm x 0 ((b : Int) - 1)
  | _ => false
theorem is_packet_gen {b l : Nat} {xs : List D} (hl : xs.length ≤ 1000000) (hx : ∀ x ∈ xs, plainV x = true) : Mi.call T (k + 2) 5 [sh b l, .tup xs] g = .ok (.bl (pkOk b l (.tup xs))) g := by
  rw [call_def d_is_packet rfl]
  unfold b_is_packet sh
  by_cases h1 : xs.length ≤ l
  · have e1 : ¬ ((l : Int) < (xs.length : Int)) := by omega
    have hc : ∀ ρ : Mi.Env, ρ.get 1 = some (.val (.tup xs)) → ρ.get 2 = some (.val (.int b)) → ρ.length = 5 → ev (Mi.call T (k + 1)) (.comp (.nm 4) (.iseq (.nm 1)) (.lit (.bl true)) [4] (.call 0 [(.nm 4), (.lit (.int 0)), (.op .sub (.nm 2) (.lit (.int 1)))])) ρ g = .ok (.lst (xs.map fun x => .bl (frm x 0 ((b : Int) - 1)))) g := fun ρ r1 r2 r3 => by
      refine ev_comp_map xs (fun x => x) (fun x => .bl (frm x 0 ((b : Int) - 1))) (fun s => (ρ.set 4 none).set 4 (some (.val s))) ?_ ?_ ?_ ?_
      · simp [r1, itemsD]
      · intro s hs; rfl
      · intro s hs
        have r4 : Env.get ((ρ.set 4 none).set 4 (some (.val s))) 2 = some (.val (.int b)) := by
          unfold Env.get at r2 ⊢
          rw [List.getElem?_set_ne (by decide), List.getElem?_set_ne (by decide)]; exact r2
        have r5 : Env.get ((ρ.set 4 none).set 4 (some (.val s))) 4 = some (.val s) := Mi.get_set_self (by simp [r3])
        simp [-List.set_set, r4, r5, opD, is_from_to_gen (hx s hs)]
      · exact sizeLine_ge (by omega)
    simp [isiD, isiTy, tyOk, biG, biS, biD, cmpD, e1]
    rw [hc _ rfl rfl rfl]
    simp [blsD_map (fun x : D => frm x 0 ((b : Int) - 1)), pkOk, h1, List.all_map, Function.comp_def]
  · have e1 : (l : Int) < (xs.length : Int) := by omega
    simp [isiD, isiTy, tyOk, biG, biS, biD, cmpD, e1, pkOk, h1]
theorem checked_packet_bad {b l : Nat} {d : D} (hd : plainV d = true) (hl : (rowOfD d).length ≤ 1000000) (hx : ∀ x ∈ rowOfD d, plainV x = true) (h : pkOk b l d = false) : Mi.call T (k + 3) 6 [sh b l, d] g = .ex ⟨1, [d]⟩ g := by
  rw [call_def d_checked_packet rfl]
  unfold b_checked_packet
  cases d with
  | tup xs =>
    have e1 := is_packet_gen (k := k) (g := g) (b := b) (l := l) (xs := xs) hl hx
    simp [is_row_gen hd, isRow, biG, biS, biD, e1, h]
  | lst xs =>
    have e1 := is_packet_gen (k := k) (g := g) (b := b) (l := l) (xs := xs) hl hx
    have h2 : pkOk b l (.tup xs) = false := h
    simp [is_row_gen hd, isRow, biG, biS, biD, e1, h2]
  | _ => simp [is_row_gen hd, isRow]
theorem check_few_bad {b l : Nat} (G : Good b l) (h : 5000 < ahead b (l + 1)) : Mi.call T (k + 3) 9 [sh b l] g = .ex ⟨9, [.str "packets"]⟩ g := by
  rw [call_def d_check_few rfl]
  unfold b_check_few
  have e1 := count_all_ok (k := k) (g := g) G
  have e2 : (5000 : Int) < (ahead b (l + 1) : Int) := by omega
  simp [e1, cmpD, e2]
/-! ### the six -/
section
variable {d : D} (hd : plainV d = true) (hx : ∀ x ∈ rowOfD d, plainV x = true) (h : shOk d = false)
include hd hx h
theorem count_sh : Mi.call T (k + 3) 11 [d] g = .ex ⟨0, [d]⟩ g := by
  rw [call_def d_count_packets rfl]
  unfold b_count_packets
  simp [checked_shape_bad (k := k) (g := g) hd hx h]
theorem all_sh : Mi.call T (k + 3) 12 [d] g = .ex ⟨0, [d]⟩ g := by
  rw [call_def d_all_packets rfl]
  unfold b_all_packets
  simp [checked_shape_bad (k := k) (g := g) hd hx h]
theorem packet_sh {b : D} : Mi.call T (k + 3) 13 [d, b] g = .ex ⟨0, [d]⟩ g := by
  rw [call_def d_packet_of rfl]
  unfold b_packet_of
  simp [checked_shape_bad (k := k) (g := g) hd hx h]
theorem number_sh {b : D} : Mi.call T (k + 3) 14 [d, b] g = .ex ⟨0, [d]⟩ g := by
  rw [call_def d_number_of rfl]
  unfold b_number_of
  simp [checked_shape_bad (k := k) (g := g) hd hx h]
theorem next_sh {b : D} : Mi.call T (k + 3) 15 [d, b] g = .ex ⟨0, [d]⟩ g := by
  rw [call_def d_next_packet rfl]
  unfold b_next_packet
  simp [checked_shape_bad (k := k) (g := g) hd hx h]
theorem cut_sh {b c : D} : Mi.call T (k + 3) 16 [d, b, c] g = .ex ⟨0, [d]⟩ g := by
  rw [call_def d_cut_packet rfl]
  unfold b_cut_packet
  simp [checked_shape_bad (k := k) (g := g) hd hx h]
end
section
variable {b l : Nat} {s d : D} (G : Good b l) (hs : IsSh b l s) (hd : plainV d = true) (hl : (rowOfD d).length ≤ 1000000) (hx : ∀ x ∈ rowOfD d, plainV x = true) (h : pkOk b l d = false)
include G hs hd hl hx h
theorem number_pk : Mi.call T (k + 4) 14 [s, d] g = .ex ⟨1, [d]⟩ g := by
  rw [call_def d_number_of rfl]
  unfold b_number_of
  have e1 := checked_shape_ok (k := k + 1) (g := g) G hs
  have e2 := checked_packet_bad (k := k) (g := g) (b := b) (l := l) hd hl hx h
  unfold sh at e1 e2
  simp [e1, e2]
theorem next_pk : Mi.call T (k + 5) 15 [s, d] g = .ex ⟨1, [d]⟩ g := by
  rw [call_def d_next_packet rfl]
  unfold b_next_packet
  have e1 := checked_shape_ok (k := k + 2) (g := g) G hs
  have e2 := number_pk (k := k) (g := g) G (.inl rfl : IsSh b l (.tup [.int b, .int l])) hd hl hx h
  unfold sh at e1
  simp [e1, e2]
theorem cut_pk {c : D} : Mi.call T (k + 4) 16 [s, d, c] g = .ex ⟨1, [d]⟩ g := by
  rw [call_def d_cut_packet rfl]
  unfold b_cut_packet
  have e1 := checked_shape_ok (k := k + 1) (g := g) G hs
  have e2 := checked_packet_bad (k := k) (g := g) (b := b) (l := l) hd hl hx h
  simp [e1, e2]
end
section
variable {b l : Nat} {s d : D} (G : Good b l) (hs : IsSh b l s) (hd : plainV d = true)
include G hs hd
theorem packet_nm (h : frm d 0 ((ahead b (l + 1) : Int) - 1) = false) : Mi.call T (k + 3) 13 [s, d] g = .ex ⟨2, [d]⟩ g := by
  rw [call_def d_packet_of rfl]
  unfold b_packet_of
  have e1 := checked_shape_ok (k := k) (g := g) G hs
  have e2 := count_all_ok (k := k) (g := g) G
  have e3 := check_number_bad (k := k) (g := g) hd h
  unfold sh at e1 e2
  simp [e1, e2, e3]
theorem cut_nm {p : List Nat} {e : D} (hp : Pk b l p) (he : IsPk p e) (h : frm d 0 (p.length : Int) = false) : Mi.call T (k + 4) 16 [s, e, d] g = .ex ⟨2, [d]⟩ g := by
  rw [call_def d_cut_packet rfl]
  unfold b_cut_packet
  have e1 := checked_shape_ok (k := k + 1) (g := g) G hs
  have e2 := checked_packet_ok (k := k) (g := g) G hp he
  have e3 := check_number_bad (k := k + 1) (g := g) hd h
  simp [e1, e2, biG, biS, biD, DP_len, e3]
end
theorem all_many {b l : Nat} {s : D} (G : Good b l) (hs : IsSh b l s) (h : 5000 < ahead b (l + 1)) : Mi.call T (k + 5) 12 [s] g = .ex ⟨9, [.str "packets"]⟩ g := by
  rw [call_def d_all_packets rfl]
  unfold b_all_packets
  have e1 := checked_shape_ok (k := k + 2) (g := g) G hs
  have e2 : Mi.call T (k + 4) 10 [sh b l] g = .ex ⟨9, [.str "packets"]⟩ g := by
    rw [call_def d_listed rfl]
    unfold b_listed
    simp [check_few_bad (k := k) (g := g) G h]
  simp [e1, e2]
end
end K01


set_option Elab.async false
set_option maxRecDepth 10000
set_option linter.unusedSimpArgs false
/-! k01: the draws. -/
namespace K01
open PySem L2 Mi Mi.Pl
section
variable {k : Nat} {g : Gs}
def mkG (cells : List Int) (ix x : Int) (great : List Int) (cur left : Int) : Gs := ⟨[.at_ 0, .num ix, .num x, .at_ 1, .num cur, .num left], [cells, great]⟩
structure Ok (g : Gs) : Prop where
  ex : ∃ cells ix x great cur left, g = mkG cells ix x great cur left ∧ cells ≠ [] ∧ 0 ≤ ix ∧ 0 ≤ x ∧ x < 2305843009213693951 ∧ 0 ≤ cur ∧ ∀ z ∈ great, 0 ≤ z
section
variable {cells great : List Int} {ix x cur left : Int}
theorem r0 : ixG (mkG cells ix x great cur left) .st (.int 0) = some (.sub 0) := (rfl)
theorem r1 : ixG (mkG cells ix x great cur left) .st (.int 1) = some (.int ix) := (rfl)
theorem r2 : ixG (mkG cells ix x great cur left) .st (.int 2) = some (.int x) := (rfl)
theorem r3 : ixG (mkG cells ix x great cur left) .st (.int 3) = some (.sub 1) := (rfl)
theorem r4 : ixG (mkG cells ix x great cur left) .st (.int 4) = some (.int cur) := (rfl)
theorem r5 : ixG (mkG cells ix x great cur left) .st (.int 5) = some (.int left) := (rfl)
theorem s1 {v : Int} : setG (mkG cells ix x great cur left) .st (.int 1) (.int v) = some (mkG cells v x great cur left) := (rfl)
theorem s2 {v : Int} : setG (mkG cells ix x great cur left) .st (.int 2) (.int v) = some (mkG cells ix v great cur left) := (rfl)
theorem s4 {v : Int} : setG (mkG cells ix x great cur left) .st (.int 4) (.int v) = some (mkG cells ix x great v left) := (rfl)
theorem s5 {v : Int} : setG (mkG cells ix x great cur left) .st (.int 5) (.int v) = some (mkG cells ix x great cur v) := (rfl)
theorem pop1 {z : Int} : popG (mkG cells ix x (z :: great) cur left) (.sub 1) = some (z, mkG cells ix x great cur left) := (rfl)
theorem len0 : biG (mkG cells ix x great cur left) .len [.sub 0] = some (.int cells.length) := bi_lenG rfl
theorem len1 : biG (mkG cells ix x great cur left) .len [.sub 1] = some (.int great.length) := bi_lenG rfl
theorem sub0 {j : Int} : ixG (mkG cells ix x great cur left) (.sub 0) (.int j) = (atI cells j).map .int := (rfl)
theorem atI_mod {j : Int} (h : cells ≠ []) : ∃ c, atI cells (j % (cells.length : Int)) = some c := by
  have h1 : 0 < cells.length := List.length_pos_iff.mpr h
  have h2 := Int.emod_nonneg j (b := (cells.length : Int)) (by omega)
  have h3 := Int.emod_lt_of_pos j (b := (cells.length : Int)) (by omega)
  obtain ⟨n, hn⟩ := Int.eq_ofNat_of_zero_le h2
  have h4 : n < cells.length := by omega
  refine ⟨cells[n], ?_⟩
  rw [hn, Mi.Pl.atI_nat, List.getElem?_eq_getElem h4]
end
theorem draw_ok (h : Ok g) {m : Int} (h0 : 0 < m) (h9 : m < 18446744073709551616) : ∃ w g', Mi.call T (k + 1) 23 [.st, .int m] g = .ok (.int w) g' ∧ 0 ≤ w ∧ w < m ∧ Ok g' := by
  obtain ⟨cells, ix, x, great, cur, left, rfl, hc, hi, hx, hx2, hcur, hg⟩ := h.ex
  rw [call_def d_law_draw rfl]
  unfold b_law_draw
  -- the first part: a great number is taken
  obtain ⟨great1, cur1, left1, e1, q1, q2⟩ : ∃ great1 cur1 left1, exS (Mi.call T k) (.ife (.tand (.cmp .eq (.ix (.nm 0) (.lit (.int 4))) (.lit (.int 0))) (.cmp .gt (.bi .len [(.ix (.nm 0) (.lit (.int 3)))]) (.lit (.int 0)))) [
      .setix 0 (.lit (.int 4)) (.pop (.ix (.nm 0) (.lit (.int 3)))),
      .setix 0 (.lit (.int 5)) (.lit (.int 60))] []) [some (.val .st), some (.val (.int m)), none, none] (mkG cells ix x great cur left) = .nx [some (.val .st), some (.val (.int m)), none, none] (mkG cells ix x great1 cur1 left1) ∧ 0 ≤ cur1 ∧ ∀ z ∈ great1, 0 ≤ z := by
    by_cases hz : cur = 0
    · subst hz
      cases great with
      | nil => exact ⟨[], 0, left, by simp [r3, r4, len1], by omega, by simp⟩
      | cons z r =>
        have h5 : (0 : Int) < ((r.length : Nat) : Int) + 1 := by omega
        exact ⟨r, z, 60, by simp [r3, r4, len1, pop1, s4, s5, h5], hg z (by simp), fun y hy => hg y (by simp [hy])⟩
    · have hz2 : (cur == 0) = false := by simpa using hz
      exact ⟨great, cur, left, by simp [r3, r4, hz2], hcur, hg⟩
  rw [exL_cons]
  show ∃ w g', fin ((exS _ _ [some (.val .st), some (.val (.int m)), none, none] _).seq _) = .ok (.int w) g' ∧ _
  rw [e1, SR.seq_nx]
  by_cases hz : 0 < cur1
  · have w1 := Int.emod_nonneg cur1 (b := m) (by omega)
    have w2 := Int.emod_lt_of_pos cur1 (b := m) h0
    by_cases hl : 1 < left1
    · refine ⟨cur1 % m, mkG cells ix x great1 (cur1 / m) (left1 - 1), ?_, w1, w2, ⟨_, _, _, _, _, _, rfl, hc, hi, hx, hx2, Int.ediv_nonneg q1 (by omega), q2⟩⟩
      simp [r4, r5, s4, s5, hz, h0, h9, hl]
    · refine ⟨cur1 % m, mkG cells ix x great1 0 (left1 - 1), ?_, w1, w2, ⟨_, _, _, _, _, _, rfl, hc, hi, hx, hx2, by omega, q2⟩⟩
      simp [r4, r5, s4, s5, hz, h0, h9, hl]
  · obtain ⟨c, hcc⟩ := atI_mod (j := ix + 1) hc
    have h1 : 0 < cells.length := List.length_pos_iff.mpr hc
    have n1 : smallI x = true := smallI_of (by omega) (by omega)
    have w1 := Int.emod_nonneg (((x * x + c + (ix + 1)) % 2305843009213693951) / 1048576) (b := m) (by omega)
    have w2 := Int.emod_lt_of_pos (((x * x + c + (ix + 1)) % 2305843009213693951) / 1048576) (b := m) h0
    refine ⟨((x * x + c + (ix + 1)) % 2305843009213693951) / 1048576 % m, mkG cells (ix + 1) ((x * x + c + (ix + 1)) % 2305843009213693951) great1 cur1 left1, ?_, w1, w2, ⟨_, _, _, _, _, _, rfl, hc, by omega, by omega, by omega, q1, q2⟩⟩
    simp [r0, r1, r2, r4, r5, s1, s2, hz, h0, h9, len0, sub0, hcc, h1, n1]
end
end K01


set_option Elab.async false
set_option maxRecDepth 10000
set_option linter.unusedSimpArgs false
/-! k01: the draws' list at its start. -/
namespace K01
open PySem L2 Mi Mi.Pl
section
variable {k : Nat} {g : Gs}
theorem intsD_app : ∀ {xs ys : List D} {a b : List Int}, intsD xs = some a → intsD ys = some b → intsD (xs ++ ys) = some (a ++ b)
  | [], _, a, b, h, h2 => by cases h; exact h2
  | .int i :: xs, ys, a, b, h, h2 => by
    unfold intsD at h
    obtain ⟨c, h3, rfl⟩ := Option.map_eq_some_iff.mp h
    have := intsD_app h3 h2
    show (intsD (xs ++ ys)).map _ = _
    rw [this]
    rfl
  | .non :: _, _, _, _, h, _ => by cases h
  | .bl _ :: _, _, _, _, h, _ => by cases h
  | .str _ :: _, _, _, _, h, _ => by cases h
  | .tup _ :: _, _, _, _, h, _ => by cases h
  | .lst _ :: _, _, _, _, h, _ => by cases h
  | .st :: _, _, _, _, h, _ => by cases h
  | .sub _ :: _, _, _, _, h, _ => by cases h
  | .scr _ :: _, _, _, _, h, _ => by cases h
theorem intsD_ints (ns : List Int) : intsD (ns.map D.int) = some ns := by
  have := intsD_map (fun i : Int => i) ns
  simpa using this
def big (ns : List Int) : List Int := ns.filter fun z => decide (1000000000000000000 ≤ z)
theorem start_ok {ns : List Int} (h : ns.length ≤ 63) : ∃ great : List Int, Mi.call T (k + 1) 22 [.scr ns] g = .ok (.lst [.lst (ns.map D.int ++ [.int ns.length]), .int 0, .int 1234567890123456789, .lst (great.map D.int), .int 0, .int 0]) g ∧ great.length ≤ ns.length ∧ ∀ z ∈ great, 0 ≤ z := by
  rw [call_def d_law_start rfl]
  unfold b_law_start
  have c1 := ev_comp_map (c := Mi.call T k) (g := g) (ρ := [some (.val (.scr ns)), none, none, none]) (tg := .nm 3) (it := .iseq (.sl (.nm 0) (.lit .non) (.part (.lit (.int 63))))) (own := [3]) (elt := .bi .int [(.nm 3)]) ns D.int D.int
    (fun i => [some (.val (.scr ns)), none, none, some (.val (.int i))])
    (by
      have e1 : cutD (ns.map D.int) none (some 63) = ns.map D.int := by
        rw [cutD_takeI _ _ (by omega), List.take_of_length_le (by rw [List.length_map]; exact h)]
      simp [partD, slD, e1, itemsD]) (fun i _ => rfl) (fun i _ => by simp) (sizeLine_ge (by omega))
  have p1 : opD .pow (.int 10) (.int 18) = some (.int 1000000000000000000) := (opD_pow (by decide) (by decide) (by decide)).trans (congrArg (fun i => some (D.int i)) (by decide +kernel))
  have c2 := ev_comp_filter (c := Mi.call T k) (g := g) (ρ := [some (.val (.scr ns)), some (.own (ns.map D.int)), none, none]) (tg := .nm 3) (it := .iseq (.nm 1)) (cond := .cmp .ge (.nm 3) (.op .pow (.lit (.int 10)) (.lit (.int 18)))) (own := [3]) (elt := .nm 3) ns D.int (fun z => decide (1000000000000000000 ≤ z)) D.int
    (fun i => [some (.val (.scr ns)), some (.own (ns.map D.int)), none, some (.val (.int i))])
    (by simp [itemsD]) (fun i _ => rfl) (fun i _ => by simp [p1]) (fun i _ _ => by simp) (sizeLine_ge (by omega))
  have s1 := bi_sum (g := g) (intsD_ints ns)
  have l1 : ns.length + 1 ≤ sizeLine := sizeLine_ge (by omega)
  have hb : ∀ z ∈ big ns, 0 ≤ z := fun z hz => by
    have := (List.mem_filter.mp hz).2
    have := of_decide_eq_true this
    omega
  by_cases hs : ns.sum % 2 = 1
  · refine ⟨[], ?_, by simp, by simp⟩
    simp [c1, c2, s1, hs, l1]
  · have hs2 : (ns.sum % 2 == 1) = false := by simpa using hs
    refine ⟨big ns, ?_, List.length_filter_le _ _, hb⟩
    simp [c1, c2, s1, hs2, l1]
    rfl
theorem start_row {ns great : List Int} (h : great.length ≤ ns.length) : rowOf 0 [.lst (ns.map D.int ++ [.int ns.length]), .int 0, .int 1234567890123456789, .lst (great.map D.int), .int 0, .int 0] = some ([.at_ 0, .num 0, .num 1234567890123456789, .at_ 1, .num 0, .num 0], [ns ++ [(ns.length : Int)], great]) ∧ [ns ++ [(ns.length : Int)], great].Nodup := by
  have e1 : intsD (ns.map D.int ++ [.int ns.length]) = some (ns ++ [(ns.length : Int)]) := intsD_app (intsD_ints ns) rfl
  have e2 := intsD_ints great
  refine ⟨by simp [rowOf, e1, e2], ?_⟩
  have ne : ns ++ [(ns.length : Int)] ≠ great := fun z => by
    have := congrArg List.length z
    rw [List.length_append, List.length_singleton] at this
    omega
  simp [ne]
theorem start_good {ns great : List Int} (h : ∀ z ∈ great, 0 ≤ z) : Ok ⟨[.at_ 0, .num 0, .num 1234567890123456789, .at_ 1, .num 0, .num 0], [ns ++ [(ns.length : Int)], great]⟩ :=
  ⟨_, _, _, _, _, _, rfl, by simp, by decide, by decide, by decide, by decide, h⟩
end
end K01


set_option Elab.async false
set_option maxRecDepth 10000
set_option linter.unusedSimpArgs false
/-! k01: the law's own count and packets by number. -/
namespace K01
open PySem L2 Mi Mi.Pl
section
variable {k : Nat} {g : Gs}
theorem law_count_ok (b l : Nat) (hb : b ≤ 256) (hn : l ≤ 1000) : Mi.call T (k + 1) 25 [sh b l] g = .ok (.int (ahead b (l + 1))) g := by
  rw [call_def d_law_count rfl]
  unfold b_law_count
  have e : smallI (b : Int) = true := smallI_of (by omega) (by omega)
  simp [-Int.natCast_add]
  rw [forS_rng l (fun j => [some (.val (sh b l)), some (.val (.int (ahead b (j + 1) : Nat))), some (.val (.int ((b ^ j : Nat) : Int))), lv (fun i => .int i) j]) ?_ ?_ ?_]
  · simp
  · simp [lv, ahead]
  · unfold sh
    exact evJ_rng1 (by simp) (by omega)
  · intro j hj
    have e2 : ((ahead b (j + 1 + 1) : Nat) : Int) = (ahead b (j + 1) : Nat) + ((b ^ (j + 1) : Nat) : Int) := rfl
    have e3 : ((b ^ j : Nat) : Int) * (b : Int) = ((b ^ (j + 1) : Nat) : Int) := by rw [Nat.pow_succ, Int.natCast_mul]
    unfold sh
    simp [e, e2, e3, lv, -Int.natCast_pow, -Int.natCast_add]
theorem law_packet_at_ok {b l m v : Nat} (G : Good b l) (hm : m ≤ l) (hv : v < b ^ m) : Mi.call T (k + 1) 32 [sh b l, .int ((ahead b m + v : Nat) : Int)] g = .ok (TP (digs b m v)) g := by
  rw [call_def d_law_packet_at rfl]
  unfold b_law_packet_at
  have h1 := G.b1
  have h2 := G.b2
  have h3 := G.l2
  have e : smallI (b : Int) = true := smallI_of (by omega) (by omega)
  simp [-Int.natCast_add]
  rw [forS_rng l (fun j => [some (.val (sh b l)), some (.val (.int ((ahead b m + v - ahead b (min j m) : Nat) : Int))), some (.val (.int ((min j m : Nat) : Int))), some (.val (.int ((b ^ (min j m) : Nat) : Int))), lv (fun i => .int i) j, none]) ?_ ?_ ?_]
  · have e7 : min l m = m := by omega
    have e8 : ahead b m + v - ahead b m = v := by omega
    simp [-Int.natCast_add, -Int.natCast_pow, e7, e8]
    rw [forS_rng m (fun j => [some (.val (sh b l)), some (.val (.int ((v / b ^ j : Nat) : Int))), some (.val (.int m)), some (.val (.int ((b ^ m : Nat) : Int))), if j = 0 then lv (fun i => .int i) l else lv (fun i => .int i) j, some (.own (((List.range j).map fun i => D.int ((v / b ^ i % b : Nat) : Int)).reverse))]) ?_ ?_ ?_]
    · unfold TP DP
      rw [digs_rev]
      simp
    · simp
    · exact evJ_rng1 (by simp) (by omega)
    · intro j hj
      have e5 : 0 < b := by omega
      have e7 : (b : Int) < 18446744073709551616 := by omega
      have e8 : ((v / b ^ j : Nat) : Int) / (b : Int) = ((v / b ^ (j + 1) : Nat) : Int) := by rw [← Int.natCast_ediv, Nat.div_div_eq_div_mul, Nat.pow_succ]
      have e9 : ((v / b ^ j : Nat) : Int) % (b : Int) = ((v / b ^ j % b : Nat) : Int) := rfl
      have e10 : 1 + j ≤ sizeLine := sizeLine_ge (by omega)
      unfold sh
      simp [e5, e7, e8, e9, e10, -Int.natCast_ediv, -Int.natCast_emod, -Int.natCast_pow, lv, List.range_succ]
  · simp [lv, ahead]
  · unfold sh
    exact evJ_rng1 (by simp) (by omega)
  · intro j hj
    by_cases h : j + 1 ≤ m
    · have m1 : min j m = j := by omega
      have m2 : min (j + 1) m = j + 1 := by omega
      have a1 : ahead b (j + 1) = ahead b j + b ^ j := rfl
      have a2 := ahead_mono b h
      have e8 : b ^ j ≤ ahead b m + v - ahead b j := by omega
      have e9 : ((ahead b m + v - ahead b j : Nat) : Int) - ((b ^ j : Nat) : Int) = ((ahead b m + v - ahead b (j + 1) : Nat) : Int) := by omega
      have e10 : ((b ^ j : Nat) : Int) * (b : Int) = ((b ^ (j + 1) : Nat) : Int) := by rw [Nat.pow_succ, Int.natCast_mul]
      have e8' : ((b ^ j : Nat) : Int) ≤ ((ahead b m + v - ahead b j : Nat) : Int) := by omega
      unfold sh
      rw [m1, m2]
      generalize hA : ((ahead b m + v - ahead b j : Nat) : Int) = A at *
      generalize hB : ((ahead b m + v - ahead b (j + 1) : Nat) : Int) = B at *
      simp [-Int.natCast_pow, e, e8', e9, e10, lv]
    · have m1 : min j m = m := by omega
      have m2 : min (j + 1) m = m := by omega
      have e7 : ahead b m + v - ahead b m = v := by omega
      have e8 : ¬ ((b ^ m : Nat) : Int) ≤ (v : Int) := by omega
      unfold sh
      rw [m1, m2, e7]
      simp [-Int.natCast_pow, e8, lv]
end
end K01


set_option Elab.async false
set_option maxRecDepth 10000
set_option linter.unusedSimpArgs false
/-! k01: wrong shapes, packets, wrong packets, wrong numbers. -/
namespace K01
open PySem L2 Mi Mi.Pl
section
variable {k : Nat} {g : Gs}
/-- a wrong shape -/
structure BadSh (d : D) : Prop where
  ok : okD 3 d = true
  no : shOk d = false
theorem okD_row {n : Nat} {d : D} (h : okD (n + 1) d = true) : ∀ x ∈ rowOfD d, okD n x = true := fun x hx => by
  cases d with
  | tup xs =>
    unfold okD at h
    rw [Bool.and_eq_true] at h
    exact List.all_eq_true.mp h.2 x hx
  | lst xs =>
    unfold okD at h
    rw [Bool.and_eq_true] at h
    exact List.all_eq_true.mp h.2 x hx
  | _ => cases hx
theorem okD_rowL {n : Nat} {d : D} (h : okD (n + 1) d = true) : (rowOfD d).length ≤ 1000000 := by
  cases d with
  | tup xs =>
    unfold okD at h
    rw [Bool.and_eq_true] at h
    exact of_decide_eq_true h.1
  | lst xs =>
    unfold okD at h
    rw [Bool.and_eq_true] at h
    exact of_decide_eq_true h.1
  | _ => exact Nat.zero_le _
theorem BadSh.row {d : D} (h : BadSh d) : ∀ x ∈ rowOfD d, plainV x = true := fun x hx => okD_plain (okD_row h.ok x hx)
def wrongSh (b l : Nat) : List D := [.tup [.int 1, .int l], .tup [.int 0, .int l], .tup [.int 257, .int l], .tup [.int (-2), .int l], .tup [.bl true, .int l], .tup [.non, .int l],
  .tup [.str (strI b), .int l], .tup [.tup [.int b], .int l], .tup [.int b, .int 13], .tup [.int b, .int (-1)], .tup [.int b, .bl true], .tup [.int b, .bl false], .tup [.int b, .non],
  .tup [.int b, .str "3"], .tup [.int b, .tup [.int 3]], .tup [.int b], .tup [.int b, .int l, .int 0], .tup [], .non, .int 7, .str "23", .bl true, .lst [.int b, .int 13], .lst [.int 257, .int 2],
  .tup [.int ((l : Int) + 300), .int b], .tup [.tup [.int b, .int l]]]
theorem wrongSh_bad (b l : Nat) : ∀ d ∈ wrongSh b l, BadSh d := by
  have h : (wrongSh b l).all (fun d => okD 3 d && !shOk d) = true := by
    have e : ¬ ((l : Int) + 300 ≤ 256) := by omega
    simp [wrongSh, okD, shOk, frm, e]
  intro d hd
  have := List.all_eq_true.mp h d hd
  rw [Bool.and_eq_true] at this
  exact ⟨this.1, by simpa using this.2⟩
theorem wrong_shape_ok {b l : Nat} (G : Good b l) (h : Ok g) : ∃ d g', Mi.call T (k + 2) 26 [.st, sh b l] g = .ok d g' ∧ BadSh d ∧ Ok g' := by
  rw [call_def d_law_wrong_shape rfl]
  unfold b_law_wrong_shape
  have h1 := G.b1
  have h2 := G.b2
  have h3 := G.l2
  have e : smallI (b : Int) = true := smallI_of (by omega) (by omega)
  obtain ⟨w1, g1, d1, q1, q1', o1⟩ := draw_ok (k := k) h (m := 26) (by decide) (by decide)
  obtain ⟨dm, a1, hb⟩ := pick (xs := wrongSh b l) q1 (by simpa [wrongSh] using q1') BadSh (wrongSh_bad b l)
  refine ⟨dm, g1, ?_, hb, o1⟩
  unfold wrongSh at a1
  have sl : 26 ≤ sizeLine := by decide
  have sl1 : 1 ≤ sizeLine := by decide
  have sl2 : 2 ≤ sizeLine := by decide
  have sl3 : 3 ≤ sizeLine := by decide
  unfold sh
  simp [bi_str e, sl, sl1, sl2, sl3, d1, a1]
/-! ### packets -/
theorem ints_nat {b : Nat} : ∀ {ds : List D}, (∀ d ∈ ds, ∃ s : Nat, s < b ∧ d = .int s) → ∃ p : List Nat, ds = DP p ∧ ∀ s ∈ p, s < b
  | [], _ => ⟨[], rfl, by simp⟩
  | d :: ds, h => by
    obtain ⟨s, h1, rfl⟩ := h d List.mem_cons_self
    obtain ⟨p, rfl, h2⟩ := ints_nat fun d hd => h d (List.mem_cons_of_mem _ hd)
    refine ⟨s :: p, rfl, fun t ht => ?_⟩
    rcases List.mem_cons.mp ht with e | e
    · exact e ▸ h1
    · exact h2 t e
theorem DP_take (p : List Nat) (n : Nat) : (DP p).take n = DP (p.take n) := by unfold DP; rw [List.map_take]
theorem DP_drop (p : List Nat) (n : Nat) : (DP p).drop n = DP (p.drop n) := by unfold DP; rw [List.map_drop]
theorem DP_app (p q : List Nat) : DP p ++ DP q = DP (p ++ q) := by unfold DP; rw [List.map_append]
theorem law_packet_ok {b l : Nat} (G : Good b l) (h : Ok g) : ∃ p g', Mi.call T (k + 2) 27 [.st, sh b l] g = .ok (TP p) g' ∧ Pk b l p ∧ Ok g' := by
  rw [call_def d_law_packet rfl]
  unfold b_law_packet
  have h1 := G.b1
  have h2 := G.b2
  have h3 := G.l2
  obtain ⟨w1, g1, d1, q1, q1', o1⟩ := draw_ok (k := k) h (m := (l : Int) + 1) (by omega) (by omega)
  obtain ⟨w2, g2, d2, q2, q2', o2⟩ := draw_ok (k := k) o1 (m := 4) (by omega) (by omega)
  obtain ⟨dm, a1, many0, rfl⟩ := pick (xs := [D.int l, .int w1, .int 0, .int 1]) q2 (by simpa using q2') (fun d => ∃ n : Nat, d = .int n) (by
    intro x hx
    simp at hx
    rcases hx with rfl | rfl | rfl | rfl
    · exact ⟨l, rfl⟩
    · exact ⟨w1.toNat, by rw [Int.toNat_of_nonneg q1]⟩
    · exact ⟨0, rfl⟩
    · exact ⟨1, rfl⟩)
  obtain ⟨many, hm, em⟩ : ∃ many : Nat, many ≤ l ∧ (if l < many0 then (l : Int) else (many0 : Int)) = (many : Int) := by
    by_cases c : l < many0
    · exact ⟨l, Nat.le_refl _, if_pos c⟩
    · exact ⟨many0, by omega, if_neg c⟩
  obtain ⟨ds, g4, c4, l4, p4, o4⟩ := ev_comp_st (c := Mi.call T (k + 1)) (ρ := [some (.val .st), some (.val (sh b l)), some (.val (.int many)), none, none]) (g := g2) (tg := .nm 4) (it := .irng1 (.nm 2)) (own := [4])
    (elt := .ix (.lst [(.op .sub (.ix (.nm 1) (.lit (.int 0))) (.lit (.int 1))), (.lit (.int 0)), (.call 23 [(.nm 0), (.ix (.nm 1) (.lit (.int 0)))])]) (.call 23 [(.nm 0), (.lit (.int 3))]))
    Ok (fun d => ∃ s : Nat, s < b ∧ d = .int s) ((List.range many).map fun (j : Nat) => D.int j) (fun x => [some (.val .st), some (.val (sh b l)), some (.val (.int many)), none, some (.val x)]) o2 (evI_rng1 (by simp) (by omega)) (fun x _ => rfl) (by
      intro x _ g hg
      obtain ⟨u1, g5, e5, r5, r5', o5⟩ := draw_ok (k := k) hg (m := (b : Int)) (by omega) (by omega)
      obtain ⟨u3, g7, e7, r7, r7', o7⟩ := draw_ok (k := k) o5 (m := 3) (by omega) (by omega)
      obtain ⟨d, a2, s, hs, rfl⟩ := pick (xs := [D.int ((b : Int) - 1), .int 0, .int u1]) r7 (by simpa using r7') (fun d => ∃ n : Nat, n < b ∧ d = .int n) (by
        intro x hx
        simp at hx
        rcases hx with rfl | rfl | rfl
        · exact ⟨b - 1, by omega, by rw [Int.natCast_sub (by omega)]; rfl⟩
        · exact ⟨0, by omega, rfl⟩
        · exact ⟨u1.toNat, by omega, by rw [Int.toNat_of_nonneg r5]⟩)
      refine ⟨.int s, g7, ?_, ⟨s, hs, rfl⟩, o7⟩
      unfold sh
      simp [e5, e7, a2]) (sizeLine_ge (by simp; omega))
  obtain ⟨sg, rfl, hsg⟩ := ints_nat p4
  have lsg : sg.length = many := by rw [DP_len] at l4; simpa using l4
  refine ⟨sg, g4, ?_, ⟨hsg, by omega⟩, o4⟩
  unfold sh at *
  unfold TP
  simp [d1, d2, a1, em, c4]
/-! ### wrong numbers -/
structure BadNm (m : Int) (d : D) : Prop where
  ok : okD 2 d = true
  no : frm d 0 (m - 1) = false
def wrongNm (m : Int) : List D := [.int m, .int (m + 1), .int (m + 65536), .int (-1), .bl true, .bl false, .non, .str "0", .tup [.int 0], .lst [.int 0], .tup []]
theorem wrongNm_bad (m : Int) : ∀ d ∈ wrongNm m, BadNm m d := by
  have h : (wrongNm m).all (fun d => okD 2 d && !frm d 0 (m - 1)) = true := by
    have e1 : ¬ (m ≤ m - 1) := by omega
    have e2 : ¬ (m + 1 ≤ m - 1) := by omega
    have e3 : ¬ (m + 65536 ≤ m - 1) := by omega
    simp [wrongNm, okD, frm, e1, e2, e3]
  intro d hd
  have := List.all_eq_true.mp h d hd
  rw [Bool.and_eq_true] at this
  exact ⟨this.1, by simpa using this.2⟩
theorem wrong_number_ok (m : Int) (h : Ok g) : ∃ d g', Mi.call T (k + 2) 29 [.st, .int m] g = .ok d g' ∧ BadNm m d ∧ Ok g' := by
  rw [call_def d_law_wrong_number rfl]
  unfold b_law_wrong_number
  obtain ⟨w1, g1, d1, q1, q1', o1⟩ := draw_ok (k := k) h (m := 11) (by decide) (by decide)
  obtain ⟨dm, a1, hb⟩ := pick (xs := wrongNm m) q1 (by simpa [wrongNm] using q1') (BadNm m) (wrongNm_bad m)
  refine ⟨dm, g1, ?_, hb, o1⟩
  unfold wrongNm at a1
  have sl : 11 ≤ sizeLine := by decide
  have sl1 : 1 ≤ sizeLine := by decide
  simp [sl, sl1, d1, a1]
end
end K01


set_option Elab.async false
set_option maxRecDepth 10000
set_option linter.unusedSimpArgs false
/-! k01: wrong packets. -/
namespace K01
open PySem L2 Mi Mi.Pl
section
variable {k : Nat} {g : Gs}
structure BadPk (b l : Nat) (d : D) : Prop where
  ok : okD 3 d = true
  no : pkOk b l d = false
theorem pk_long {b l : Nat} {q : List Nat} (h : l < q.length) : pkOk b l (TP q) = false := by
  unfold TP
  simp [pkOk, DP_len]
  omega
theorem pk_badT {b l : Nat} {pre post : List D} {x : D} (h : frm x 0 ((b : Int) - 1) = false) : pkOk b l (.tup (pre ++ [x] ++ post)) = false := by
  simp [pkOk, List.all_append, h]
theorem pk_badL {b l : Nat} {pre post : List D} {x : D} (h : frm x 0 ((b : Int) - 1) = false) : pkOk b l (.lst (pre ++ [x] ++ post)) = false := by
  simp [pkOk, List.all_append, h]
theorem rep_DP (n x : Nat) : (List.replicate n [D.int (x : Int)]).flatten = DP (List.replicate n x) := by
  induction n with
  | zero => rfl
  | succ n ih =>
    rw [List.replicate_succ, List.flatten_cons, ih, List.replicate_succ]
    rfl
theorem rep_DPI (n : Nat) (x : Int) (h : 0 ≤ x) : (List.replicate n [D.int x]).flatten = DP (List.replicate n x.toNat) := by
  have := rep_DP n x.toNat
  rwa [Int.toNat_of_nonneg h] at this
theorem okD_DPs (n : Nat) {p : List Nat} : ∀ x ∈ DP p, okD (n + 1) x = true := fun x hx => List.all_eq_true.mp (okD_DP n) x hx
/-- the first ones -/
def W0 (b l : Nat) (p : List Nat) : List D := [TP (List.replicate (l + 1) 0), TP (List.replicate (l + 1) (b - 1)), .non, .int 0, .bl true, .str "", .str "0", .str "00", .tup [.int b], .tup [.int (-1)], .tup [.bl true], .tup [.bl false],
  .tup [.str "0"], .tup [.non], .tup [.tup [.int 0]], .tup [.tup []], .lst [.int b], .tup (DP p ++ [.int b]), TP (p ++ List.replicate (l + 1 - p.length) 0)]
theorem W0_bad {b l : Nat} {p : List Nat} (G : Good b l) (hp : Pk b l p) : ∀ d ∈ W0 b l p, BadPk b l d := by
  have h1 := G.b1
  have h3 := G.l2
  have h4 := hp.le
  have e1 : ¬ ((b : Int) ≤ (b : Int) - 1) := by omega
  have rest : ∀ d ∈ ([.non, .int 0, .bl true, .str "", .str "0", .str "00", .tup [.int b], .tup [.int (-1)], .tup [.bl true], .tup [.bl false], .tup [.str "0"], .tup [.non], .tup [.tup [.int 0]], .tup [.tup []], .lst [.int b]] : List D), BadPk b l d := by
    have h : (([.non, .int 0, .bl true, .str "", .str "0", .str "00", .tup [.int b], .tup [.int (-1)], .tup [.bl true], .tup [.bl false], .tup [.str "0"], .tup [.non], .tup [.tup [.int 0]], .tup [.tup []], .lst [.int b]] : List D).all (fun d => okD 3 d && !pkOk b l d)) = true := by
      simp [okD, pkOk, frm, e1]
    intro d hd
    have := List.all_eq_true.mp h d hd
    rw [Bool.and_eq_true] at this
    exact ⟨this.1, by simpa using this.2⟩
  intro d hd
  unfold W0 at hd
  rcases List.mem_cons.mp hd with rfl | hd
  · exact ⟨okD_TP 1 (by simp; omega), pk_long (by simp)⟩
  rcases List.mem_cons.mp hd with rfl | hd
  · exact ⟨okD_TP 1 (by simp; omega), pk_long (by simp)⟩
  rcases List.mem_append.mp (show d ∈ ([.non, .int 0, .bl true, .str "", .str "0", .str "00", .tup [.int b], .tup [.int (-1)], .tup [.bl true], .tup [.bl false], .tup [.str "0"], .tup [.non], .tup [.tup [.int 0]], .tup [.tup []], .lst [.int b]] : List D) ++ [.tup (DP p ++ [.int b]), TP (p ++ List.replicate (l + 1 - p.length) 0)] from hd) with hd | hd
  · exact rest d hd
  rcases List.mem_cons.mp hd with rfl | hd
  · refine ⟨?_, ?_⟩
    · show (decide ((DP p ++ [D.int b]).length ≤ 1000000) && (DP p ++ [D.int b]).all (okD 2)) = true
      rw [List.all_append, okD_DP 1]
      simp [DP_len, okD]
      omega
    · have := pk_badT (b := b) (l := l) (pre := DP p) (post := []) (x := .int b) (by simp [frm, e1])
      rw [List.append_nil] at this
      exact this
  · have := List.mem_singleton.mp hd
    subst this
    exact ⟨okD_TP 1 (by simp; omega), pk_long (by simp; omega)⟩
def S9 (b : Nat) (p : List Nat) : List D := [.int b, .int ((b : Int) + 256), .int (-1), .bl true, .bl false, .non, .str "1", .tup [.int 0], TP p]
theorem S9_bad {b l : Nat} {p : List Nat} (hp : Pk b l p) (hl : l ≤ 12) : ∀ s ∈ S9 b p, okD 2 s = true ∧ frm s 0 ((b : Int) - 1) = false := by
  have e1 : ¬ ((b : Int) ≤ (b : Int) - 1) := by omega
  have e2 : ¬ ((b : Int) + 256 ≤ (b : Int) - 1) := by omega
  have h4 := hp.le
  intro s hs
  unfold S9 at hs
  rcases List.mem_append.mp (show s ∈ ([.int b, .int ((b : Int) + 256), .int (-1), .bl true, .bl false, .non, .str "1", .tup [.int 0]] : List D) ++ [TP p] from hs) with hs | hs
  · have h : ([.int b, .int ((b : Int) + 256), .int (-1), .bl true, .bl false, .non, .str "1", .tup [.int 0]] : List D).all (fun d => okD 2 d && !frm d 0 ((b : Int) - 1)) = true := by
      simp [okD, frm, e1, e2]
    have := List.all_eq_true.mp h s hs
    rw [Bool.and_eq_true] at this
    exact ⟨this.1, by simpa using this.2⟩
  · have := List.mem_singleton.mp hs
    subst this
    exact ⟨okD_TP 0 (by omega), rfl⟩
/-- one sign put in -/
def put (p : List Nat) (n : Nat) (s : D) : List D := (DP p).take n ++ [s] ++ (DP p).drop (n + 1)
theorem put_len {p : List Nat} {n : Nat} {s : D} : (put p n s).length ≤ p.length + 1 := by
  unfold put
  simp [DP_len]
  omega
theorem put_ok {p : List Nat} {n : Nat} {s : D} (h : okD 2 s = true) : (put p n s).all (okD 2) = true := by
  unfold put
  rw [List.all_append, List.all_append]
  have a : ((DP p).take n).all (okD 2) = true := List.all_eq_true.mpr fun x hx => okD_DPs 1 x (List.mem_of_mem_take hx)
  have c : ((DP p).drop (n + 1)).all (okD 2) = true := List.all_eq_true.mpr fun x hx => okD_DPs 1 x (List.mem_of_mem_drop hx)
  rw [a, c]
  simp [h]
theorem wrong_packet_ok {b l : Nat} {p : List Nat} (G : Good b l) (hp : Pk b l p) (h : Ok g) : ∃ d g', Mi.call T (k + 2) 28 [.st, sh b l, TP p] g = .ok d g' ∧ BadPk b l d ∧ Ok g' := by
  rw [call_def d_law_wrong_packet rfl]
  unfold b_law_wrong_packet
  have h1 := G.b1
  have h2 := G.b2
  have h3 := G.l2
  have h4 := hp.le
  have sl : 19 ≤ sizeLine := by decide
  have sl1 : 1 ≤ sizeLine := by decide
  have sl2 : 2 ≤ sizeLine := by decide
  have tail : ∀ (W : List D) (x6 x7 : Option Cell) (g : Gs), W ≠ [] → W.length ≤ 1000 → (∀ d ∈ W, BadPk b l d) → Ok g → ∃ d g', fin (exL (Mi.call T (k + 1)) [.ret (.ix (.nm 5) (.call 23 [(.nm 0), (.bi .len [(.nm 5)])]))] [some (.val .st), some (.val (sh b l)), some (.val (TP p)), some (.val (.int b)), some (.val (.int l)), some (.own W), x6, x7] g) = .ok d g' ∧ BadPk b l d ∧ Ok g' := fun W x6 x7 g hW hl hb hg => by
    have hpos : 0 < W.length := List.length_pos_iff.mpr hW
    obtain ⟨w1, g1, d1, q1, q1', o1⟩ := draw_ok (k := k) hg (m := (W.length : Int)) (by omega) (by omega)
    obtain ⟨dm, a1, hb⟩ := pick (xs := W) q1 q1' (BadPk b l) hb
    exact ⟨dm, g1, by simp [d1, a1], hb, o1⟩
  rw [exL_cons]
  have s0 : exS (Mi.call T (k + 1)) (.asgT [3, 4] (.nm 1)) (envOf [.st, sh b l, TP p] 8) g = .nx [some (.val .st), some (.val (sh b l)), some (.val (TP p)), some (.val (.int b)), some (.val (.int l)), none, none, none] g := by
    unfold sh
    simp
  rw [s0, SR.seq_nx, exL_cons]
  have m1 : opD .mul (.tup [.int 0]) (.int ((l : Int) + 1)) = some (TP (List.replicate (l + 1) 0)) := by
    rw [opD_mulT (by simp) (by omega) (by omega) (by simp), rep_DPI _ _ (by decide)]
    rfl
  have m2 : opD .mul (.tup [.int ((b : Int) - 1)]) (.int ((l : Int) + 1)) = some (TP (List.replicate (l + 1) (b - 1))) := by
    rw [opD_mulT (by simp) (by omega) (by omega) (by simp), rep_DPI _ _ (by omega)]
    have e : ((b : Int) - 1).toNat = b - 1 := by omega
    have e2 : ((l : Int) + 1).toNat = l + 1 := by omega
    rw [e, e2]
    rfl
  have m3 : opD .mul (.tup [.int 0]) (.int ((l : Int) + 1 - (p.length : Int))) = some (TP (List.replicate (l + 1 - p.length) 0)) := by
    rw [opD_mulT (by simp) (by omega) (by omega) (by simp), rep_DPI _ _ (by decide)]
    have e2 : ((l : Int) + 1 - (p.length : Int)).toNat = l + 1 - p.length := by omega
    rw [e2]
    rfl
  have n1 : opD .add (TP p) (.tup [.int b]) = some (.tup (DP p ++ [.int b])) := opD_addT (sizeLine_ge (by rw [DP_len]; simp; omega))
  have n2 : opD .add (TP p) (TP (List.replicate (l + 1 - p.length) 0)) = some (TP (p ++ List.replicate (l + 1 - p.length) 0)) := by
    unfold TP
    rw [opD_addT (sizeLine_ge (by rw [DP_len, DP_len]; simp; omega)), DP_app]
  have len : ∀ g, biG g .len [TP p] = some (.int (p.length : Int)) := fun g => by
    unfold TP
    rw [bi_lenT, DP_len]
  generalize hW : W0 b l p = W
  have s1 : ∀ e, e = E.lst [(.op .mul (.tup [(.lit (.int 0))]) (.op .add (.nm 4) (.lit (.int 1)))), (.op .mul (.tup [(.op .sub (.nm 3) (.lit (.int 1)))]) (.op .add (.nm 4) (.lit (.int 1)))), (.lit .non), (.lit (.int 0)), (.lit (.bl true)), (.lit (.str "")), (.lit (.str "0")), (.lit (.str "00")), (.tup [(.nm 3)]), (.tup [(.neg (.lit (.int 1)))]), (.tup [(.lit (.bl true))]), (.tup [(.lit (.bl false))]), (.tup [(.lit (.str "0"))]), (.tup [(.lit .non)]), (.tup [(.tup [(.lit (.int 0))])]), (.tup [(.tup [])]), (.lst [(.nm 3)]), (.op .add (.nm 2) (.tup [(.nm 3)])), (.op .add (.nm 2) (.op .mul (.tup [(.lit (.int 0))]) (.op .sub (.op .add (.nm 4) (.lit (.int 1))) (.bi .len [(.nm 2)]))))] → exS (Mi.call T (k + 1)) (.asg 5 e) [some (.val .st), some (.val (sh b l)), some (.val (TP p)), some (.val (.int b)), some (.val (.int l)), none, none, none] g = .nx [some (.val .st), some (.val (sh b l)), some (.val (TP p)), some (.val (.int b)), some (.val (.int l)), some (.own W), none, none] g := fun e he => by
    subst he
    rw [← hW]
    unfold W0
    simp [m1, m2, m3, n1, n2, len, sl, sl1, -opD_mulT, -opD_addT]
  rw [s1 _ rfl, SR.seq_nx, exL_cons]
  have hWb : ∀ d ∈ W, BadPk b l d := by rw [← hW]; exact W0_bad G hp
  have hWl : W.length = 19 := by rw [← hW]; rfl
  by_cases hz : p.length = 0
  · have e0 : ¬ (0 < p.length) := by omega
    obtain ⟨d, g', e, hb, o⟩ := tail W none none g (by intro z; rw [z] at hWl; cases hWl) (by omega) hWb h
    refine ⟨d, g', ?_, hb, o⟩
    have e0' : ¬ ((0 : Int) < (p.length : Int)) := by omega
    rw [← e]
    simp [len, e0', hz, -exS_ret]
  · have e0' : (0 : Int) < (p.length : Int) := by omega
    obtain ⟨w1, g1, d1, q1, q1', o1⟩ := draw_ok (k := k) h (m := (p.length : Int)) (by omega) (by omega)
    obtain ⟨n, rfl⟩ := Int.eq_ofNat_of_zero_le q1
    have hn : n < p.length := by omega
    have c1 : slD (TP p) none (some (n : Int)) = some (.tup ((DP p).take n)) := by
      unfold TP
      show some (D.tup (cutD (DP p) none (some (n : Int)))) = _
      rw [cutD_take]
    have c2 : slD (TP p) (some ((n : Int) + 1)) none = some (.tup ((DP p).drop (n + 1))) := by
      unfold TP
      show some (D.tup (cutD (DP p) (some ((n + 1 : Nat) : Int)) none)) = _
      rw [cutD_drop]
    have add1 : ∀ x : D, opD .add (.tup ((DP p).take n)) (.tup [x]) = some (.tup ((DP p).take n ++ [x])) := fun x => opD_addT (sizeLine_ge (by simp [DP_len]; omega))
    have add2 : ∀ x : D, opD .add (.tup ((DP p).take n ++ [x])) (.tup ((DP p).drop (n + 1))) = some (.tup (put p n x)) := fun x => opD_addT (sizeLine_ge (by simp [DP_len]; omega))
    have add3 : ∀ x : D, opD .add (.lst ((DP p).take n)) (.lst [x]) = some (.lst ((DP p).take n ++ [x])) := fun x => opD_addL (sizeLine_ge (by simp [DP_len]; omega))
    have add4 : ∀ x : D, opD .add (.lst ((DP p).take n ++ [x])) (.lst ((DP p).drop (n + 1))) = some (.lst (put p n x)) := fun x => opD_addL (sizeLine_ge (by simp [DP_len]; omega))
    have loop : exS (Mi.call T (k + 1)) (.forS (.nm 7) (.iseq (.lst [(.nm 3), (.op .add (.nm 3) (.lit (.int 256))), (.neg (.lit (.int 1))), (.lit (.bl true)), (.lit (.bl false)), (.lit .non), (.lit (.str "1")), (.tup [(.lit (.int 0))]), (.nm 2)])) [
        .app 5 (.op .add (.op .add (.sl (.nm 2) (.lit .non) (.part (.nm 6))) (.tup [(.nm 7)])) (.sl (.nm 2) (.part (.op .add (.nm 6) (.lit (.int 1)))) (.lit .non)))]) [some (.val .st), some (.val (sh b l)), some (.val (TP p)), some (.val (.int b)), some (.val (.int l)), some (.own W), some (.val (.int n)), none] g1 =
        .nx [some (.val .st), some (.val (sh b l)), some (.val (TP p)), some (.val (.int b)), some (.val (.int l)), some (.own (W ++ (S9 b p).map fun s => .tup (put p n s))), some (.val (.int n)), some (.val (TP p))] g1 := by
      rw [forS_seq (S9 b p) (fun j => [some (.val .st), some (.val (sh b l)), some (.val (TP p)), some (.val (.int b)), some (.val (.int l)), some (.own (W ++ ((S9 b p).take j).map fun s => .tup (put p n s))), some (.val (.int n)), lv (fun i => (S9 b p)[i]?.getD .non) j]) ?_ ?_ ?_]
      · rfl
      · simp [lv]
      · unfold S9
        have sl9 : 9 ≤ sizeLine := by decide
        simp [itemsD, sl1, sl9]
      · intro j hj
        have hj9 : j < 9 := hj
        have e7 : (S9 b p)[j]? = some (S9 b p)[j] := List.getElem?_eq_getElem hj
        have tk : (S9 b p).take (j + 1) = (S9 b p).take j ++ [(S9 b p)[j]] := by rw [List.take_succ, e7]; rfl
        have ll : (W ++ ((S9 b p).take j).map fun s => D.tup (put p n s)).length < sizeLine := by
          have : (W ++ ((S9 b p).take j).map fun s => D.tup (put p n s)).length ≤ 28 := by
            rw [List.length_append, List.length_map, List.length_take]
            omega
          exact Nat.lt_of_le_of_lt this (by decide)
        generalize (S9 b p)[j] = s at *
        generalize hV : (W ++ ((S9 b p).take j).map fun s => D.tup (put p n s)) = V at *
        have hV2 : (W ++ ((S9 b p).take (j + 1)).map fun s => D.tup (put p n s)) = V ++ [D.tup (put p n s)] := by
          rw [tk, List.map_append, ← List.append_assoc, hV]
          rfl
        rw [hV2]
        simp [partD, c1, c2, add1, add2, sl1, ll, lv, e7, -opD_addT]
    have sS : exL (Mi.call T (k + 1)) [.asg 6 (.call 23 [(.nm 0), (.bi .len [(.nm 2)])]),
        .forS (.nm 7) (.iseq (.lst [(.nm 3), (.op .add (.nm 3) (.lit (.int 256))), (.neg (.lit (.int 1))), (.lit (.bl true)), (.lit (.bl false)), (.lit .non), (.lit (.str "1")), (.tup [(.lit (.int 0))]), (.nm 2)])) [
          .app 5 (.op .add (.op .add (.sl (.nm 2) (.lit .non) (.part (.nm 6))) (.tup [(.nm 7)])) (.sl (.nm 2) (.part (.op .add (.nm 6) (.lit (.int 1)))) (.lit .non)))],
        .app 5 (.op .add (.op .add (.bi .list [(.sl (.nm 2) (.lit .non) (.part (.nm 6)))]) (.lst [(.nm 3)])) (.bi .list [(.sl (.nm 2) (.part (.op .add (.nm 6) (.lit (.int 1)))) (.lit .non))]))]
        [some (.val .st), some (.val (sh b l)), some (.val (TP p)), some (.val (.int b)), some (.val (.int l)), some (.own W), none, none] g =
        .nx [some (.val .st), some (.val (sh b l)), some (.val (TP p)), some (.val (.int b)), some (.val (.int l)), some (.own (W ++ ((S9 b p).map fun s => D.tup (put p n s)) ++ [.lst (put p n (.int b))])), some (.val (.int n)), some (.val (TP p))] g1 := by
      rw [exL_cons]
      have a6 : exS (Mi.call T (k + 1)) (.asg 6 (.call 23 [(.nm 0), (.bi .len [(.nm 2)])])) [some (.val .st), some (.val (sh b l)), some (.val (TP p)), some (.val (.int b)), some (.val (.int l)), some (.own W), none, none] g = .nx [some (.val .st), some (.val (sh b l)), some (.val (TP p)), some (.val (.int b)), some (.val (.int l)), some (.own W), some (.val (.int n)), none] g1 := by
        have d1' : Mi.call T (k + 1) 23 [.st, .int (p.length : Int)] g = .ok (.int (n : Int)) g1 := d1
        simp [len, d1']
      rw [a6, SR.seq_nx, exL_cons, loop, SR.seq_nx]
      have ll : (W ++ (S9 b p).map fun s => D.tup (put p n s)).length < sizeLine := by
        have : (W ++ (S9 b p).map fun s => D.tup (put p n s)).length = 28 := by
          rw [List.length_append, List.length_map, hWl]
          rfl
        rw [this]
        decide
      generalize (W ++ (S9 b p).map fun s => D.tup (put p n s)) = V at *
      simp [partD, c1, c2, add3, add4, sl1, ll, -opD_addL]
    obtain ⟨d, g', e, hb, o⟩ := tail (W ++ ((S9 b p).map fun s => D.tup (put p n s)) ++ [.lst (put p n (.int b))]) (some (.val (.int n))) (some (.val (TP p))) g1 (by simp) (by
      rw [List.length_append, List.length_append, List.length_map, hWl]
      show 19 + 9 + 1 ≤ 1000
      decide) (fun d hd => by
      have big : ∀ s, (put p n s).length ≤ 1000000 := fun s => Nat.le_trans put_len (by omega)
      rcases List.mem_append.mp hd with hd | hd
      · rcases List.mem_append.mp hd with hd | hd
        · exact hWb d hd
        · obtain ⟨s, hs, rfl⟩ := List.mem_map.mp hd
          obtain ⟨s1, s2⟩ := S9_bad hp h3 s hs
          exact ⟨by
            show (decide ((put p n s).length ≤ 1000000) && (put p n s).all (okD 2)) = true
            rw [put_ok s1, decide_eq_true (big s)]
            rfl, pk_badT s2⟩
      · have := List.mem_singleton.mp hd
        subst this
        exact ⟨by
          show (decide ((put p n (.int b)).length ≤ 1000000) && (put p n (.int b)).all (okD 2)) = true
          rw [put_ok rfl, decide_eq_true (big _)]
          rfl, pk_badL (by
            have : ¬ ((b : Int) ≤ (b : Int) - 1) := by omega
            simp [frm, this])⟩) o1
    refine ⟨d, g', ?_, hb, o⟩
    rw [← e]
    rw [exS_ife]
    have tv : (brw (.cmp .gt (.bi .len [(.nm 2)]) (.lit (.int 0))) [some (.val .st), some (.val (sh b l)), some (.val (TP p)), some (.val (.int b)), some (.val (.int l)), some (.own W), none, none] g (ev (Mi.call T (k + 1)) (.cmp .gt (.bi .len [(.nm 2)]) (.lit (.int 0))) [some (.val .st), some (.val (sh b l)), some (.val (TP p)), some (.val (.int b)), some (.val (.int l)), some (.own W), none, none] g)) = .ok (.bl true) g := by
      simp [len, e0', -Int.natCast_pos]
    rw [tv, R.st_ok]
    show fin (SR.seq (exL _ _ _ g) _) = _
    rw [sS, SR.seq_nx]
end
end K01


set_option Elab.async false
set_option maxRecDepth 10000
set_option linter.unusedSimpArgs false
/-! k01: refusals stand. -/
namespace K01
open PySem L2 Mi Mi.Pl
section
variable {k : Nat} {g : Gs}
def nms : List Str := ["count_packets", "all_packets", "packet_of", "number_of", "next_packet", "cut_packet"]
def nms3 : List Str := ["number_of", "next_packet", "cut_packet"]
theorem rs {nm : Str} (h : nm ∈ nms) {d x y : D} (hd : BadSh d) : Mi.call T (k + 9) 24 [.str nm, d, x, y] g = .ok (.tup [.str "raised", .lst [.str "shape"], d]) g := by
  have p := okD_plain hd.ok
  have x := okD_noX hd.ok
  simp [nms] at h
  rcases h with rfl | rfl | rfl | rfl | rfl | rfl
  · exact bad_count (k := k + 7) (j := 0) (.inl rfl) x (count_sh (k := k + 5) p hd.row hd.no)
  · exact bad_all (k := k + 7) (j := 0) (.inl rfl) x (all_sh (k := k + 5) p hd.row hd.no)
  · exact bad_packet (k := k + 7) (j := 0) (.inl rfl) x (packet_sh (k := k + 5) p hd.row hd.no)
  · exact bad_number (k := k + 7) (j := 0) (.inl rfl) x (number_sh (k := k + 5) p hd.row hd.no)
  · exact bad_next (k := k + 7) (j := 0) (.inl rfl) x (next_sh (k := k + 5) p hd.row hd.no)
  · exact bad_cut (k := k + 7) (j := 0) (.inl rfl) x (cut_sh (k := k + 5) p hd.row hd.no)
theorem rp {b l : Nat} (G : Good b l) {nm : Str} (h : nm ∈ nms3) {s d y : D} (hs : IsSh b l s) (hd : okD 3 d = true) (hn : pkOk b l d = false) : Mi.call T (k + 9) 24 [.str nm, s, d, y] g = .ok (.tup [.str "raised", .lst [.str "packet"], d]) g := by
  have p := okD_plain hd
  have x := okD_noX hd
  have row : ∀ x ∈ rowOfD d, plainV x = true := fun x hx => okD_plain (okD_row hd x hx)
  have ll := okD_rowL hd
  simp [nms3] at h
  rcases h with rfl | rfl | rfl
  · exact bad_number (k := k + 7) (j := 1) (.inr (.inl rfl)) x (number_pk (k := k + 4) G hs p ll row hn)
  · exact bad_next (k := k + 7) (j := 1) (.inr (.inl rfl)) x (next_pk (k := k + 3) G hs p ll row hn)
  · exact bad_cut (k := k + 7) (j := 1) (.inr (.inl rfl)) x (cut_pk (k := k + 4) G hs p ll row hn)
theorem rn1 {b l : Nat} (G : Good b l) {s d y : D} (hs : IsSh b l s) (hd : okD 2 d = true) (hn : frm d 0 ((ahead b (l + 1) : Int) - 1) = false) : Mi.call T (k + 9) 24 [.str "packet_of", s, d, y] g = .ok (.tup [.str "raised", .lst [.str "number"], d]) g :=
  bad_packet (k := k + 7) (j := 2) (.inr (.inr (.inl rfl))) (okD_noX hd) (packet_nm (k := k + 5) G hs (okD_plain hd) hn)
theorem rn2 {b l : Nat} {p : List Nat} (G : Good b l) {s d e : D} (hs : IsSh b l s) (hp : Pk b l p) (he : IsPk p e) (hd : okD 2 d = true) (hn : frm d 0 (p.length : Int) = false) : Mi.call T (k + 9) 24 [.str "cut_packet", s, e, d] g = .ok (.tup [.str "raised", .lst [.str "number"], d]) g :=
  bad_cut (k := k + 7) (j := 2) (.inr (.inr (.inl rfl))) (okD_noX hd) (cut_nm (k := k + 4) G hs (okD_plain hd) hp he hn)
theorem okD_more : ∀ {n : Nat} {d : D}, okD n d = true → okD (n + 1) d = true
  | 0, _, h => by cases h
  | n + 1, d, h => by
    cases d with
    | tup xs =>
      unfold okD at h ⊢
      rw [Bool.and_eq_true] at h ⊢
      exact ⟨h.1, List.all_eq_true.mpr fun x hx => okD_more (List.all_eq_true.mp h.2 x hx)⟩
    | lst xs =>
      unfold okD at h ⊢
      rw [Bool.and_eq_true] at h ⊢
      exact ⟨h.1, List.all_eq_true.mpr fun x hx => okD_more (List.all_eq_true.mp h.2 x hx)⟩
    | int _ => rfl
    | bl _ => rfl
    | str _ => rfl
    | non => rfl
    | _ => cases h
/-- what the law raises is judged so -/
theorem rj {kd : Str} (hk : kindOk kd = true) {d : D} (hd : okD 3 d = true) : Mi.call T (k + 9) 21 [.tup [.str "raised", .lst [.str kd], d], .str kd, d] g = .ok (.bl true) g := raised_ok (k := k + 5) (n := 3) hk hd
theorem refusals_ok {b l : Nat} {p : List Nat} (G : Good b l) (hp : Pk b l p) (h : Ok g) : ∃ g', Mi.call T (k + 10) 30 [.st, sh b l, TP p] g = .ok (.bl true) g' ∧ Ok g' := by
  rw [call_def d_law_refusals_stand rfl]
  unfold b_law_refusals_stand
  have h2 := G.b2
  have h3 := G.l2
  have h4 := hp.le
  have sl1 : 1 ≤ sizeLine := by decide
  have sl3 : 3 ≤ sizeLine := by decide
  have sl5 : 5 ≤ sizeLine := by decide
  have sl6 : 6 ≤ sizeLine := by decide
  have c25 : ∀ g, Mi.call T (k + 9) 25 [sh b l] g = .ok (.int (ahead b (l + 1))) g := fun g => law_count_ok (k := k + 8) b l h2 (by omega)
  have len : ∀ g, biG g .len [TP p] = some (.int (p.length : Int)) := fun g => by
    unfold TP
    rw [bi_lenT, DP_len]
  rw [exL_cons]
  have s0 : exS (Mi.call T (k + 9)) (.asg 3 (.lst [(.lit (.str "count_packets")), (.lit (.str "all_packets")), (.lit (.str "packet_of")), (.lit (.str "number_of")), (.lit (.str "next_packet")), (.lit (.str "cut_packet"))])) (envOf [.st, sh b l, TP p] 8) g =
      .nx [some (.val .st), some (.val (sh b l)), some (.val (TP p)), some (.own (nms.map D.str)), none, none, none, none] g := by
    simp [sl6, nms]
  rw [s0, SR.seq_nx, exL_cons]
  obtain ⟨d0, g1, c28, b0, o1⟩ := wrong_packet_ok (k := k + 7) G hp h
  have s1 : exS (Mi.call T (k + 9)) (.asg 4 (.call 28 [(.nm 0), (.nm 1), (.nm 2)])) [some (.val .st), some (.val (sh b l)), some (.val (TP p)), some (.own (nms.map D.str)), none, none, none, none] g =
      .nx [some (.val .st), some (.val (sh b l)), some (.val (TP p)), some (.own (nms.map D.str)), some (.val d0), none, none, none] g1 := by
    have c28' : Mi.call T (k + 9) 28 [.st, sh b l, TP p] g = .ok d0 g1 := c28
    simp [c28']
  rw [s1, SR.seq_nx, exL_cons, exS_fz]
  have fz : freeze [some (.val .st), some (.val (sh b l)), some (.val (TP p)), some (.own (nms.map D.str)), some (.val d0), none, none, none] [3] = [some (.val .st), some (.val (sh b l)), some (.val (TP p)), some (.val (.lst (nms.map D.str))), some (.val d0), none, none, none] := by
    simp
  rw [fz]
  obtain ⟨ρ2, g2, l1, x5, x6, rfl, o2⟩ := forS_items (c := Mi.call T (k + 9)) (i := 5) (it := .iseq (.nm 3)) (g := g1) (g1 := g1) (ρ0 := [some (.val .st), some (.val (sh b l)), some (.val (TP p)), some (.val (.lst (nms.map D.str))), some (.val d0), none, none, none]) (body := [
      .asg 6 (.call 26 [(.nm 0), (.nm 1)]),
      .ife (.tnot (.call 21 [(.call 24 [(.nm 5), (.nm 6), (.ix (.lst [(.lit .non), (.nm 4), (.nm 2)]) (.call 23 [(.nm 0), (.lit (.int 3))])), (.neg (.lit (.int 1)))]), (.lit (.str "shape")), (.nm 6)])) [
        .ret (.lit (.bl false))] []]) (nms.map D.str)
    (fun _ ρ g => ∃ x5 x6, ρ = [some (.val .st), some (.val (sh b l)), some (.val (TP p)), some (.val (.lst (nms.map D.str))), some (.val d0), x5, x6, none] ∧ Ok g) ⟨none, none, rfl, o1⟩ (by simp [itemsD]) (by
      rintro j hj ρ g ⟨x5, x6, rfl, hg⟩
      obtain ⟨nm, hnm, en⟩ := List.mem_map.mp (List.getElem_mem hj)
      rw [← en]
      obtain ⟨d, g2, c26, bd, o2⟩ := wrong_shape_ok (k := k + 7) G hg
      obtain ⟨w, g3, c23, q, q', o3⟩ := draw_ok (k := k + 8) o2 (m := 3) (by decide) (by decide)
      obtain ⟨dx, a1, _⟩ := pick (xs := [D.non, d0, TP p]) q (by simpa using q') (fun _ => True) (fun _ _ => trivial)
      have c26' : Mi.call T (k + 9) 26 [.st, sh b l] g = .ok d g2 := c26
      have c23' : Mi.call T (k + 9) 23 [.st, .int 3] g2 = .ok (.int w) g3 := c23
      have c24 := rs (k := k) (g := g3) hnm (x := dx) (y := .int (-1)) bd
      have c21 := rj (k := k) (g := g3) kind0 bd.ok
      exact ⟨[some (.val .st), some (.val (sh b l)), some (.val (TP p)), some (.val (.lst (nms.map D.str))), some (.val d0), some (.val (.str nm)), some (.val d), none], g3, by simp [c26', c23', c24, c21, a1, sl3], _, _, rfl, o3⟩)
  rw [l1, SR.seq_nx, exL_cons]
  obtain ⟨ρ3, g3, l2, x4, x5', x7, rfl, o3⟩ := forS_items (c := Mi.call T (k + 9)) (i := 5) (it := .iseq (.lst [(.lit (.str "number_of")), (.lit (.str "next_packet")), (.lit (.str "cut_packet"))])) (g := g2) (g1 := g2) (ρ0 := [some (.val .st), some (.val (sh b l)), some (.val (TP p)), some (.val (.lst (nms.map D.str))), some (.val d0), x5, x6, none]) (body := [
      .asg 4 (.call 28 [(.nm 0), (.nm 1), (.nm 2)]),
      .asg 7 (.ix (.lst [(.neg (.lit (.int 1))), (.lit (.bl true)), (.lit .non), (.lit (.int 0)), (.lit (.int 99))]) (.call 23 [(.nm 0), (.lit (.int 5))])),
      .ife (.tnot (.call 21 [(.call 24 [(.nm 5), (.nm 1), (.nm 4), (.nm 7)]), (.lit (.str "packet")), (.nm 4)])) [
        .ret (.lit (.bl false))] []]) (nms3.map D.str)
    (fun _ ρ g => ∃ x4 x5 x7, ρ = [some (.val .st), some (.val (sh b l)), some (.val (TP p)), some (.val (.lst (nms.map D.str))), x4, x5, x6, x7] ∧ Ok g) ⟨_, _, _, rfl, o2⟩ (by simp [itemsD, sl3, nms3]) (by
      rintro j hj ρ g ⟨x4, x5, x7, rfl, hg⟩
      obtain ⟨nm, hnm, en⟩ := List.mem_map.mp (List.getElem_mem hj)
      rw [← en]
      obtain ⟨d, g2, c28, bd, o2⟩ := wrong_packet_ok (k := k + 7) G hp hg
      obtain ⟨w, g3, c23, q, q', o3⟩ := draw_ok (k := k + 8) o2 (m := 5) (by decide) (by decide)
      obtain ⟨dx, a1, _⟩ := pick (xs := [D.int (-1), .bl true, .non, .int 0, .int 99]) q (by simpa using q') (fun _ => True) (fun _ _ => trivial)
      have c28' : Mi.call T (k + 9) 28 [.st, sh b l, TP p] g = .ok d g2 := c28
      have c23' : Mi.call T (k + 9) 23 [.st, .int 5] g2 = .ok (.int w) g3 := c23
      have c24 := rp (k := k) (g := g3) G hnm (s := sh b l) (y := dx) (.inl rfl) bd.ok bd.no
      have c21 := rj (k := k) (g := g3) kind1 bd.ok
      exact ⟨[some (.val .st), some (.val (sh b l)), some (.val (TP p)), some (.val (.lst (nms.map D.str))), some (.val d), some (.val (.str nm)), x6, some (.val dx)], g3, by simp [c28', c23', c24, c21, a1, sl5], _, _, _, rfl, o3⟩)
  rw [l2, SR.seq_nx]
  obtain ⟨d1, g4, c29, b1, o4⟩ := wrong_number_ok (k := k + 7) (ahead b (l + 1) : Int) o3
  have c24 := rn1 (k := k) (g := g4) G (s := sh b l) (y := .non) (.inl rfl) b1.ok b1.no
  have c21 := rj (k := k) (g := g4) kind2 (okD_more b1.ok)
  obtain ⟨d2, g5, c29', b2, o5⟩ := wrong_number_ok (k := k + 7) ((p.length : Int) + 1) o4
  have n2 : frm d2 0 (p.length : Int) = false := by
    have := b2.no
    rwa [Int.add_sub_cancel] at this
  have c24' := rn2 (k := k) (g := g5) G (s := sh b l) (e := TP p) (.inl rfl) hp (.inl rfl) b2.ok n2
  have c21' := rj (k := k) (g := g5) kind2 (okD_more b2.ok)
  refine ⟨g5, ?_, o5⟩
  have z1 : Mi.call T (k + 9) 29 [.st, .int (ahead b (l + 1))] g3 = .ok d1 g4 := c29
  have z2 : Mi.call T (k + 9) 29 [.st, .int ((p.length : Int) + 1)] g4 = .ok d2 g5 := c29'
  simp [c25, z1, c24, c21, len, z2, c24', c21']
end
end K01


set_option Elab.async false
set_option maxRecDepth 10000
set_option linter.unusedSimpArgs false
/-! k01: the bounds stand. -/
namespace K01
open PySem L2 Mi Mi.Pl
section
variable {k : Nat} {g : Gs}
theorem val_max {b : Nat} (hb : 0 < b) : ∀ r, val b (List.replicate r (b - 1)) + 1 = b ^ r
  | 0 => rfl
  | r + 1 => by
    rw [List.replicate_succ', val_app, Nat.pow_succ, ← val_max hb r, Nat.add_mul, Nat.one_mul]
    omega
theorem tj {n : Nat} (hn : n ≤ 4) {d : D} (hd : okD n d = true) : Mi.call T (k + 9) 20 [.tup [.str "told", d], d] g = .ok (.bl true) g := by
  have h : okD 4 d = true := by
    match n, hn, hd with
    | 4, _, hd => exact hd
    | 3, _, hd => exact okD_more hd
    | 2, _, hd => exact okD_more (okD_more hd)
    | 1, _, hd => exact okD_more (okD_more (okD_more hd))
    | 0, _, hd => cases hd
  exact told_ok (k := k + 4) (n := 4) h
theorem sj {n : Nat} (hn : n ≤ 4) {d : D} (hd : okD n d = true) : Mi.call T (k + 9) 19 [d, d] g = .ok (.bl true) g := by
  have h : okD 4 d = true := by
    match n, hn, hd with
    | 4, _, hd => exact hd
    | 3, _, hd => exact okD_more hd
    | 2, _, hd => exact okD_more (okD_more hd)
    | 1, _, hd => exact okD_more (okD_more (okD_more hd))
    | 0, _, hd => cases hd
  exact same_ok (k := k + 5) 4 d h
section
variable {b l : Nat} {s : D} (G : Good b l) (hs : IsSh b l s)
include G hs
theorem ac {x y : D} : Mi.call T (k + 9) 24 [.str "count_packets", s, x, y] g = .ok (.tup [.str "told", .int (ahead b (l + 1))]) g := ask_count (count_packets_ok (k := k + 5) G hs)
theorem aa {x y : D} (h : ahead b (l + 1) ≤ 5000) : Mi.call T (k + 9) 24 [.str "all_packets", s, x, y] g = .ok (.tup [.str "told", .tup ((allP b (l + 1)).map TP)]) g := ask_all (all_packets_ok (k := k + 3) G hs h)
theorem ap {m v : Nat} {y : D} (hm : m ≤ l) (hv : v < b ^ m) : Mi.call T (k + 9) 24 [.str "packet_of", s, .int ((ahead b m + v : Nat) : Int), y] g = .ok (.tup [.str "told", TP (digs b m v)]) g := ask_packet (packet_of_ok (k := k + 5) G hs hm hv)
theorem an {p : List Nat} {e y : D} (hp : Pk b l p) (he : IsPk p e) : Mi.call T (k + 9) 24 [.str "number_of", s, e, y] g = .ok (.tup [.str "told", .int ((ahead b p.length + val b p : Nat) : Int)]) g := ask_number (number_of_ok (k := k + 4) G hs hp he)
theorem ax {p : List Nat} {e y : D} (hp : Pk b l p) (he : IsPk p e) : Mi.call T (k + 9) 24 [.str "next_packet", s, e, y] g = .ok (.tup [.str "told", nextP b l (ahead b p.length + val b p)]) g := ask_next (next_packet_ok (k := k + 3) G hs hp he)
theorem au {p : List Nat} {e : D} {n : Nat} (hp : Pk b l p) (he : IsPk p e) (hn : n ≤ p.length) : Mi.call T (k + 9) 24 [.str "cut_packet", s, e, .int n] g = .ok (.tup [.str "told", TP (p.take n)]) g := by
  have := ask_cut (cut_packet_ok (k := k + 4) (g := g) G hs hp he hn)
  unfold TP
  rw [← DP_take]
  exact this
end
theorem isSh_list {b l : Nat} {s : D} (hs : IsSh b l s) : ∃ t : Bool, isiD s [.list] = some t ∧ (if t = true then D.lst [.int b, .int l] else .tup [.int b, .int l]) = s ∧ okD 2 s = true := by
  rcases hs with rfl | rfl
  · exact ⟨false, rfl, rfl, rfl⟩
  · exact ⟨true, rfl, rfl, rfl⟩
theorem isPk_list {b l : Nat} {p : List Nat} (hp : Pk b l p) (hl : l ≤ 12) {s : D} (hs : IsPk p s) : ∃ t : Bool, isiD s [.list] = some t ∧ (if t = true then D.lst (DP p) else .tup (DP p)) = s ∧ okD 2 s = true := by
  have := hp.le
  rcases hs with rfl | rfl
  · exact ⟨false, rfl, rfl, okD_TP 0 (by omega)⟩
  · exact ⟨true, rfl, rfl, okD_LP 0 (by omega)⟩
theorem bounds_ok {b l : Nat} {p : List Nat} (G : Good b l) (hp : Pk b l p) (h : Ok g) : ∃ g', Mi.call T (k + 10) 31 [.st, sh b l, TP p] g = .ok (.bl true) g' ∧ Ok g' := by
  rw [call_def d_law_bounds_stand rfl]
  unfold b_law_bounds_stand
  have h1 := G.b1
  have h2 := G.b2
  have h3 := G.l2
  have h4 := hp.le
  have sl2 : 2 ≤ sizeLine := by decide
  have sl3 : 3 ≤ sizeLine := by decide
  have c25 : ∀ g, Mi.call T (k + 9) 25 [sh b l] g = .ok (.int (ahead b (l + 1))) g := fun g => law_count_ok (k := k + 8) b l h2 (by omega)
  have lenP : ∀ g, biG g .len [TP p] = some (.int (p.length : Int)) := fun g => by
    unfold TP
    rw [bi_lenT, DP_len]
  have lstP : ∀ g q, biG g .list [TP q] = some (.lst (DP q)) := fun g q => rfl
  have lstS : ∀ g, biG g .list [sh b l] = some (.lst [.int b, .int l]) := fun g => rfl
  have ix0 : ∀ g, ixG g (sh b l) (.int 0) = some (.int b) := fun g => by unfold sh; simp
  have ix1 : ∀ g, ixG g (sh b l) (.int 1) = some (.int l) := fun g => by unfold sh; simp
  generalize hlast : List.replicate l (b - 1) = last
  have m1 : opD .mul (.tup [.int ((b : Int) - 1)]) (.int (l : Int)) = some (TP last) := by
    rw [opD_mulT (by simp) (by omega) (by omega) (by simp), rep_DPI _ _ (by omega)]
    have e : ((b : Int) - 1).toNat = b - 1 := by omega
    rw [e, Int.toNat_natCast, hlast]
    rfl
  have vm := val_max (show 0 < b by omega) l
  rw [hlast] at vm
  have ll : last.length = l := by rw [← hlast]; simp
  have pkl : Pk b l last := ⟨fun s hs => by
    rw [← hlast] at hs
    have := (List.mem_replicate.mp hs).2
    omega, by omega⟩
  have ah : ahead b (l + 1) = ahead b l + b ^ l := rfl
  have num : ahead b l + val b last + 1 = ahead b (l + 1) := by omega
  have numI : ((ahead b (l + 1) : Nat) : Int) - 1 = ((ahead b l + val b last : Nat) : Int) := by omega
  have vlt : val b last < b ^ l := by omega
  have dl : digs b l (val b last) = last := by
    have := digs_val (show 0 < b by omega) last pkl.lt
    rwa [ll] at this
  obtain ⟨w1, g1, d1, q1, q1', o1⟩ := draw_ok (k := k + 8) h (m := 2) (by decide) (by decide)
  obtain ⟨w2, g2, d2, q2, q2', o2⟩ := draw_ok (k := k + 8) o1 (m := 2) (by decide) (by decide)
  obtain ⟨given, a1, hgv⟩ := pick (xs := [D.lst [.int b, .int l], sh b l]) q1 (by simpa using q1') (IsSh b l) (by
    intro x hx
    simp at hx
    rcases hx with rfl | rfl
    · exact .inr rfl
    · exact .inl rfl)
  obtain ⟨handed, a2, hhd⟩ := pick (xs := [D.lst (DP p), TP p]) q2 (by simpa using q2') (IsPk p) (by
    intro x hx
    simp at hx
    rcases hx with rfl | rfl
    · exact .inr rfl
    · exact .inl rfl)
  have d1' : Mi.call T (k + 9) 23 [.st, .int 2] g = .ok (.int w1) g1 := d1
  have d2' : Mi.call T (k + 9) 23 [.st, .int 2] g1 = .ok (.int w2) g2 := d2
  obtain ⟨t1, i1, i2, i3⟩ := isSh_list hgv
  obtain ⟨t2, j1, j2, j3⟩ := isPk_list hp h3 hhd
  -- the first nine rows
  have e1 := ac (k := k) (g := g2) G hgv (x := .non) (y := .non)
  have e1' := tj (k := k) (g := g2) (n := 1) (by decide) (show okD 1 (.int (ahead b (l + 1))) = true from rfl)
  have e2 := ap (k := k) (g := g2) G hgv (m := l) (v := val b last) (y := .non) (Nat.le_refl _) vlt
  rw [dl] at e2
  have e2' := tj (k := k) (g := g2) (n := 2) (by decide) (okD_TP 0 (p := last) (by omega))
  have e3 := ap (k := k) (g := g2) G hgv (m := 0) (v := 0) (y := .non) (Nat.zero_le _) (by simp)
  have z0 : ((ahead b 0 + 0 : Nat) : Int) = 0 := rfl
  rw [z0] at e3
  have z1 : TP (digs b 0 0) = .tup [] := rfl
  rw [z1] at e3
  have e3' := tj (k := k) (g := g2) (n := 1) (by decide) (show okD 1 (.tup []) = true from rfl)
  have e4 := an (k := k) (g := g2) G hgv (e := .lst (DP last)) (y := .non) pkl (.inr rfl)
  rw [ll] at e4
  have e4' := tj (k := k) (g := g2) (n := 1) (by decide) (show okD 1 (.int ((ahead b l + val b last : Nat) : Int)) = true from rfl)
  have e5 := ax (k := k) (g := g2) G hgv (e := TP last) (y := .non) pkl (.inl rfl)
  have nx : nextP b l (ahead b last.length + val b last) = .non := by
    unfold nextP
    rw [ll, List.getElem?_eq_none (by rw [allP_len]; omega)]
  rw [nx] at e5
  have e5' := tj (k := k) (g := g2) (n := 1) (by decide) (show okD 1 .non = true from rfl)
  have okL : ∀ n, okD 2 (TP (p.take n)) = true := fun n => okD_TP 0 (by rw [List.length_take]; omega)
  -- the last loop
  obtain ⟨w3, g3, d3, q3, q3', o3⟩ := draw_ok (k := k + 8) o2 (m := (p.length : Int) + 1) (by omega) (by omega)
  obtain ⟨n3, rfl⟩ := Int.eq_ofNat_of_zero_le q3
  have d3' : Mi.call T (k + 9) 23 [.st, .int ((p.length : Int) + 1)] g2 = .ok (.int (n3 : Int)) g3 := d3
  have slE : ∀ n : Nat, slD (TP p) none (some (n : Int)) = some (TP (p.take n)) := fun n => by
    unfold TP
    show some (D.tup (cutD (DP p) none (some (n : Int)))) = _
    rw [cutD_take, DP_take]
  obtain ⟨ρ4, g4, l1, x7, rfl, rfl⟩ := forS_items (c := Mi.call T (k + 9)) (i := 7) (it := .iseq (.lst [(.bi .len [(.nm 2)]), (.lit (.int 0)), (.call 23 [(.nm 0), (.op .add (.bi .len [(.nm 2)]) (.lit (.int 1)))])])) (g := g2) (g1 := g3)
    (ρ0 := [some (.val .st), some (.val (sh b l)), some (.val (TP p)), some (.val (.int (ahead b (l + 1)))), some (.val (TP last)), some (.val given), some (.val handed), none]) (body := [
      .ife (.tnot (.call 20 [(.call 24 [(.lit (.str "cut_packet")), (.nm 5), (.nm 6), (.nm 7)]), (.sl (.nm 2) (.lit .non) (.part (.nm 7)))])) [
        .ret (.lit (.bl false))] []]) [.int (p.length : Int), .int 0, .int (n3 : Int)]
    (fun _ ρ g => ∃ x7, ρ = [some (.val .st), some (.val (sh b l)), some (.val (TP p)), some (.val (.int (ahead b (l + 1)))), some (.val (TP last)), some (.val given), some (.val handed), x7] ∧ g = g3) ⟨_, rfl, rfl⟩ (by simp [itemsD, lenP, d3', sl3]) (by
      rintro j hj ρ g ⟨x7, rfl, rfl⟩
      obtain ⟨n, hn, en⟩ : ∃ n : Nat, n ≤ p.length ∧ ([D.int (p.length : Int), .int 0, .int (n3 : Int)] : List D)[j] = .int (n : Int) := by
        match j, hj with
        | 0, _ => exact ⟨p.length, Nat.le_refl _, rfl⟩
        | 1, _ => exact ⟨0, Nat.zero_le _, rfl⟩
        | 2, _ => exact ⟨n3, by omega, rfl⟩
      rw [en]
      have c24 := au (k := k) (g := g) G hgv hp hhd hn
      have c20 := tj (k := k) (g := g) (n := 2) (by decide) (okL n)
      exact ⟨[some (.val .st), some (.val (sh b l)), some (.val (TP p)), some (.val (.int (ahead b (l + 1)))), some (.val (TP last)), some (.val given), some (.val handed), some (.val (.int n))], g, by simp [partD, slE, c24, c20], _, rfl, rfl⟩)
  have f1 := sj (k := k) (g := g4) (n := 2) (by decide) j3
  have f2 := sj (k := k) (g := g4) (n := 2) (by decide) i3
  refine ⟨g4, ?_, o3⟩
  have fin2 : fin (exL (Mi.call T (k + 9)) [
      .ife (.tnot (.call 19 [(.nm 6), (.ite (.isi (.nm 6) [.list] false) (.bi .list [(.nm 2)]) (.nm 2))])) [
        .ret (.lit (.bl false))] [],
      .ret (.call 19 [(.nm 5), (.ite (.isi (.nm 5) [.list] false) (.bi .list [(.nm 1)]) (.nm 1))])] [some (.val .st), some (.val (sh b l)), some (.val (TP p)), some (.val (.int (ahead b (l + 1)))), some (.val (TP last)), some (.val given), some (.val handed), x7] g4) = .ok (.bl true) g4 := by
    cases t1 with
    | false =>
      have k1 : sh b l = given := i2
      have k3 : Mi.call T (k + 9) 19 [given, sh b l] g4 = .ok (.bl true) g4 := by rw [k1]; exact f2
      cases t2 with
      | false =>
        have k2 : TP p = handed := j2
        have k4 : Mi.call T (k + 9) 19 [handed, TP p] g4 = .ok (.bl true) g4 := by rw [k2]; exact f1
        simp [i1, j1, k3, k4]
      | true =>
        have k2 : D.lst (DP p) = handed := j2
        have k4 : Mi.call T (k + 9) 19 [handed, .lst (DP p)] g4 = .ok (.bl true) g4 := by rw [k2]; exact f1
        simp [i1, j1, k3, k4, lstP]
    | true =>
      have k1 : D.lst [.int b, .int l] = given := i2
      have k3 : Mi.call T (k + 9) 19 [given, .lst [.int b, .int l]] g4 = .ok (.bl true) g4 := by rw [k1]; exact f2
      cases t2 with
      | false =>
        have k2 : TP p = handed := j2
        have k4 : Mi.call T (k + 9) 19 [handed, TP p] g4 = .ok (.bl true) g4 := by rw [k2]; exact f1
        simp [i1, j1, k3, k4, lstS]
      | true =>
        have k2 : D.lst (DP p) = handed := j2
        have k4 : Mi.call T (k + 9) 19 [handed, .lst (DP p)] g4 = .ok (.bl true) g4 := by rw [k2]; exact f1
        simp [i1, j1, k3, k4, lstP, lstS]
  rw [exL_split 9 (ρ1 := [some (.val .st), some (.val (sh b l)), some (.val (TP p)), some (.val (.int (ahead b (l + 1)))), some (.val (TP last)), some (.val given), some (.val handed), none]) (g1 := g2) (by
    have a1' : ixG g1 (.lst [D.lst [.int b, .int l], sh b l]) (.int w1) = some given := a1
    have a2' : ixG g2 (.lst [D.lst (DP p), TP p]) (.int w2) = some handed := a2
    have mk : mkCell true (TP last) = .val (TP last) := (rfl)
    simp [c25, ix0, ix1, m1, mk, lstP, lstS, sl2, d1', d2', a1', a2', numI, e1, e1', e2, e2', e3, e3', e4, e4', e5, e5', -opD_mulT, -Int.natCast_add])]
  show fin (exL _ [_, _, _] _ _) = _
  rw [exL_cons, l1, SR.seq_nx]
  exact fin2
end
end K01


set_option Elab.async false
set_option maxRecDepth 10000
set_option linter.unusedSimpArgs false
/-! k01: 1 and True. -/
namespace K01
open PySem L2 Mi Mi.Pl
section
variable {k : Nat} {g : Gs}
theorem twins_ok (h : Ok g) : ∃ g', Mi.call T (k + 10) 33 [.st] g = .ok (.bl true) g' ∧ Ok g' := by
  rw [call_def d_law_twins_stand rfl]
  unfold b_law_twins_stand
  have sl1 : 1 ≤ sizeLine := by decide
  have sl2 : 2 ≤ sizeLine := by decide
  obtain ⟨w, g1, d1, q, q', o1⟩ := draw_ok (k := k + 8) h (m := 3) (by decide) (by decide)
  obtain ⟨b, hb1, hb2, eb⟩ : ∃ b : Nat, 2 ≤ b ∧ b ≤ 4 ∧ 2 + w = (b : Int) := ⟨(2 + w).toNat, by omega, by omega, by omega⟩
  have d1' : Mi.call T (k + 9) 23 [.st, .int 3] g = .ok (.int w) g1 := d1
  refine ⟨g1, ?_, o1⟩
  have G : Good b 1 := ⟨hb1, by omega, by decide⟩
  have G3 : Good b 3 := ⟨hb1, by omega, by decide⟩
  have hs : IsSh b 1 (.tup [.int b, .int 1]) := .inl rfl
  have hs3 : IsSh b 3 (.lst [.int b, .int 3]) := .inr rfl
  have pk1 : Pk b 1 [1] := ⟨fun s hs => by rw [List.mem_singleton.mp hs]; omega, by decide⟩
  have pk13 : Pk b 3 [1] := ⟨fun s hs => by rw [List.mem_singleton.mp hs]; omega, by decide⟩
  have pk03 : Pk b 3 [0] := ⟨fun s hs => by rw [List.mem_singleton.mp hs]; omega, by decide⟩
  have a1 : ahead b 1 = 1 := by simp [ahead]
  have a2 : ((ahead b (1 + 1) : Nat) : Int) = (b : Int) + 1 := by
    have : ahead b (1 + 1) = ahead b 1 + b ^ 1 := rfl
    rw [this, a1, Nat.pow_one]
    omega
  have v1 : val b [1] = 1 := by simp [val]
  have v0 : val b [0] = 0 := by simp [val]
  have ix0 : ∀ x, atI [D.int b, x] 0 = some (.int b) := fun x => (rfl)
  -- what is asked
  have e1 := ac (k := k) (g := g1) G hs (x := .non) (y := .non)
  rw [a2] at e1
  have e1' := tj (k := k) (g := g1) (n := 1) (by decide) (show okD 1 (.int ((b : Int) + 1)) = true from rfl)
  have e2 := rs (k := k) (g := g1) (nm := "count_packets") (by simp [nms]) (d := .tup [.int b, .bl true]) (x := .non) (y := .non) ⟨rfl, by simp [shOk, frm]⟩
  have e2' := rj (k := k) (g := g1) kind0 (d := .tup [.int b, .bl true]) rfl
  have e3 := an (k := k) (g := g1) G hs (e := .tup [.int 1]) (y := .non) pk1 (.inl rfl)
  have z3 : ((ahead b ([1] : List Nat).length + val b [1] : Nat) : Int) = 2 := by
    show ((ahead b 1 + val b [1] : Nat) : Int) = 2
    rw [a1, v1]; rfl
  rw [z3] at e3
  have e3' := tj (k := k) (g := g1) (n := 1) (by decide) (show okD 1 (.int 2) = true from rfl)
  have e4 := rp (k := k) (g := g1) G (nm := "number_of") (by simp [nms3]) (s := .tup [.int b, .int 1]) (d := .tup [.bl true]) (y := .non) hs rfl (by simp [pkOk, frm])
  have e4' := rj (k := k) (g := g1) kind1 (d := .tup [.bl true]) rfl
  have e5 := ap (k := k) (g := g1) G hs (m := 1) (v := 0) (y := .non) (Nat.le_refl _) (by simp; omega)
  have z5 : ((ahead b 1 + 0 : Nat) : Int) = 1 := by rw [a1]; rfl
  have y5 : TP (digs b 1 0) = .tup [.int 0] := by
    have : digs b 1 0 = [0] := by simp [digs]
    rw [this]; rfl
  rw [z5, y5] at e5
  have e5' := tj (k := k) (g := g1) (n := 2) (by decide) (show okD 2 (.tup [.int 0]) = true from rfl)
  have e6 := rn1 (k := k) (g := g1) G (s := .tup [.int b, .int 1]) (d := .bl true) (y := .non) hs rfl rfl
  have e6' := rj (k := k) (g := g1) kind2 (d := .bl true) rfl
  have e7 := au (k := k) (g := g1) G hs (p := [1]) (e := .tup [.int 1]) (n := 0) pk1 (.inl rfl) (by decide)
  have z7 : (((0 : Nat)) : Int) = 0 := rfl
  have y7 : TP (([1] : List Nat).take 0) = .tup [] := rfl
  rw [z7, y7] at e7
  have e7' := tj (k := k) (g := g1) (n := 1) (by decide) (show okD 1 (.tup []) = true from rfl)
  have e8 := rn2 (k := k) (g := g1) G (s := .tup [.int b, .int 1]) (e := .tup [.int 1]) (d := .bl false) hs pk1 (.inl rfl) rfl rfl
  have e8' := rj (k := k) (g := g1) kind2 (d := .bl false) rfl
  -- next_packet
  have f1 := ax (k := k) (g := g1) G3 hs3 (e := .lst [.int 1]) (y := .non) pk13 (.inr rfl)
  have n1 : ∃ q : List Nat, q.length ≤ 2 ∧ nextP b 3 (ahead b ([1] : List Nat).length + val b [1]) = TP q ∧ (if (b : Int) = 2 then D.tup [.int 0, .int 0] else .tup [.int 2]) = TP q := by
    show ∃ q : List Nat, q.length ≤ 2 ∧ nextP b 3 (ahead b 1 + val b [1]) = TP q ∧ _
    rw [a1, v1]
    unfold nextP
    by_cases c : b = 2
    · subst c
      refine ⟨[0, 0], by decide, ?_, rfl⟩
      have := allP_get 2 4 2 0 (by decide) (by decide)
      rw [show 1 + 1 + 1 = ahead 2 2 + 0 from by decide, this]
      rfl
    · refine ⟨[2], by decide, ?_, ?_⟩
      · have := allP_get b 4 1 2 (by decide) (by simp; omega)
        rw [show 1 + 1 + 1 = ahead b 1 + 2 from by rw [a1], this]
        have : digs b 1 2 = [2] := by
          simp [digs]
          exact Nat.mod_eq_of_lt (by omega)
        simp [this]
      · rw [if_neg (by omega)]; rfl
  obtain ⟨qq, ql, n1, n1'⟩ := n1
  rw [n1] at f1
  have f1' := tj (k := k) (g := g1) (n := 2) (by decide) (okD_TP 0 (p := qq) (by omega))
  have f2 := ax (k := k) (g := g1) G3 hs3 (e := .lst [.int 0]) (y := .non) pk03 (.inr rfl)
  have n2 : nextP b 3 (ahead b ([0] : List Nat).length + val b [0]) = .tup [.int 1] := by
    show nextP b 3 (ahead b 1 + val b [0]) = _
    rw [a1, v0]
    unfold nextP
    have := allP_get b 4 1 1 (by decide) (by simp; omega)
    rw [show 1 + 0 + 1 = ahead b 1 + 1 from by rw [a1], this]
    have : digs b 1 1 = [1] := by
      simp [digs]
      exact Nat.mod_eq_of_lt (by omega)
    simp [this]
    rfl
  rw [n2] at f2
  have f2' := tj (k := k) (g := g1) (n := 2) (by decide) (show okD 2 (.tup [.int 1]) = true from rfl)
  rw [exL_cons]
  have s0 : exS (Mi.call T (k + 9)) (.asg 1 (.tup [(.op .add (.lit (.int 2)) (.call 23 [(.nm 0), (.lit (.int 3))])), (.lit (.int 1))])) (envOf [.st] 5) g = .nx [some (.val .st), some (.val (.tup [.int b, .int 1])), none, none, none] g1 := by
    simp [d1', eb, sl2]
  rw [s0, SR.seq_nx, exL_cons]
  have fst : D.fast (.tup [.str "told", TP qq]) = true := by
    have : D.fasts (DP qq) = true := by
      clear n1 n1' f1 f1' ql
      induction qq with
      | nil => rfl
      | cons x r ih =>
        show (D.fast (.int x) && D.fasts (DP r)) = true
        rw [ih]; rfl
    show (D.fast (.str "told") && (D.fast (.tup (DP qq)) && true)) = true
    show (true && (D.fasts (DP qq) && true)) = true
    rw [this]; rfl
  have lnt : ∀ g, lent (.ok (.tup [.str "told", TP qq]) g) = .ok (.tup [.str "told", TP qq]) g := fun g => lent_ok fst
  have i10 : ixN 1 0 = some 0 := (rfl)
  have bb : ((b : Int) == 2) = decide ((b : Int) = 2) := by
    by_cases c : (b : Int) = 2 <;> simp [c]
  rw [forS_rng 2 (fun j => [some (.val .st), some (.val (.tup [.int b, .int 1])), lv (fun i => .int i) j, none, none]) ?_ ?_ ?_, SR.seq_nx]
  · by_cases c : (b : Int) = 2
    · rw [if_pos c] at n1'
      rw [← n1'] at f1 f1' lnt
      have c' : ((b : Int) == 2) = true := by rw [bb]; simp [c]
      simp [f1, f1', f2, f2', lnt, ix0, c', i10, sl1, sl2, lv]
    · rw [if_neg c] at n1'
      rw [← n1'] at f1 f1' lnt
      have c' : ((b : Int) == 2) = false := by rw [bb]; simp [c]
      simp [f1, f1', f2, f2', lnt, ix0, c', i10, sl1, sl2, lv]
  · rfl
  · exact evJ_rng1 (by simp) (by decide)
  · intro j hj
    simp [e1, e1', e2, e2', e3, e3', e4, e4', e5, e5', e6, e6', e7, e7', e8, e8', ix0, sl1, sl2, lv]
end
end K01


set_option Elab.async false
set_option maxRecDepth 10000
set_option linter.unusedSimpArgs false
/-! k01: few and many. -/
namespace K01
open PySem L2 Mi Mi.Pl
section
variable {k : Nat} {g : Gs}
def least13 : List (Nat × Nat) := [(71, 2), (17, 3), (9, 4), (6, 5), (4, 6), (4, 7), (4, 8), (3, 8), (3, 9), (3, 11), (2, 12), (256, 2), (256, 12)]
def most12 : List (Nat × Nat) := [(70, 2), (16, 3), (8, 4), (5, 5), (3, 6), (3, 7), (2, 8), (2, 11), (256, 1), (256, 0), (70, 1), (2, 10)]
def most5 : List (Nat × Nat) := [(7, 2), (2, 5), (3, 4), (16, 1), (5, 0)]
def shs (ps : List (Nat × Nat)) : List D := ps.map fun p => sh p.1 p.2
theorem least_ok : (least13.all fun p => (List.range 3).all fun w => decide (2 ≤ min 256 (p.1 + w)) && decide (min 256 (p.1 + w) ≤ 256) && decide (p.2 ≤ 12) && decide (5000 < ahead (min 256 (p.1 + w)) (p.2 + 1))) = true := by decide +kernel
theorem most_ok : ((most12 ++ most5).all fun p => decide (2 ≤ p.1) && decide (p.1 ≤ 256) && decide (p.2 ≤ 12) && decide (ahead p.1 (p.2 + 1) ≤ 5000)) = true := by decide +kernel
theorem least_at {p : Nat × Nat} (h : p ∈ least13) {w : Nat} (hw : w < 3) : Good (min 256 (p.1 + w)) p.2 ∧ 5000 < ahead (min 256 (p.1 + w)) (p.2 + 1) := by
  have := List.all_eq_true.mp (List.all_eq_true.mp least_ok p h) w (List.mem_range.mpr hw)
  simp only [Bool.and_eq_true, decide_eq_true_eq] at this
  exact ⟨⟨this.1.1.1, this.1.1.2, this.1.2⟩, this.2⟩
theorem most_at {p : Nat × Nat} (h : p ∈ most12 ++ most5) : Good p.1 p.2 ∧ ahead p.1 (p.2 + 1) ≤ 5000 := by
  have := List.all_eq_true.mp most_ok p h
  simp only [Bool.and_eq_true, decide_eq_true_eq] at this
  exact ⟨⟨this.1.1.1, this.1.1.2, this.1.2⟩, this.2⟩
theorem pick_sh {ps : List (Nat × Nat)} {w : Int} (h0 : 0 ≤ w) (h1 : w < (ps.length : Int)) : ∃ p, p ∈ ps ∧ atI (shs ps) w = some (sh p.1 p.2) := by
  obtain ⟨d, e, p, hp, rfl⟩ := pick (xs := shs ps) h0 (by unfold shs; rw [List.length_map]; exact h1) (fun d => ∃ p ∈ ps, d = sh p.1 p.2) (fun x hx => by
    obtain ⟨p, hp, rfl⟩ := List.mem_map.mp hx
    exact ⟨p, hp, rfl⟩)
  exact ⟨p, hp, e⟩
/-- a shape of few packets, asked -/
theorem few_ok {b l : Nat} (G : Good b l) (hN : ahead b (l + 1) ≤ 5000) {x1 x3 x4 x5 x6 x7 x8 : Option Cell} (h : Ok g) : ∃ g', exL (Mi.call T (k + 9)) [
    .asg 5 (.call 25 [(.nm 2)]),
    .asg 6 (.call 24 [(.lit (.str "all_packets")), (.bi .list [(.nm 2)]), (.lit .non), (.lit .non)]),
    .ife (.tor (.cmp .ne (.ix (.nm 6) (.lit (.int 0))) (.lit (.str "told"))) (.tor (.tnot (.isi (.ix (.nm 6) (.lit (.int 1))) [.tuple] false)) (.cmp .ne (.bi .len [(.ix (.nm 6) (.lit (.int 1)))]) (.nm 5)))) [
      .ret (.lit (.bl false))] [],
    .ife (.tor (.tnot (.call 19 [(.ix (.ix (.nm 6) (.lit (.int 1))) (.lit (.int 0))), (.tup [])])) (.tnot (.call 19 [(.ix (.ix (.nm 6) (.lit (.int 1))) (.op .sub (.nm 5) (.lit (.int 1)))), (.op .mul (.tup [(.op .sub (.ix (.nm 2) (.lit (.int 0))) (.lit (.int 1)))]) (.ix (.nm 2) (.lit (.int 1))))]))) [
      .ret (.lit (.bl false))] [],
    .asg 7 (.call 23 [(.nm 0), (.nm 5)]),
    .asg 8 (.call 32 [(.nm 2), (.nm 7)]),
    .ife (.tor (.tnot (.call 19 [(.ix (.ix (.nm 6) (.lit (.int 1))) (.nm 7)), (.nm 8)])) (.tnot (.call 20 [(.call 24 [(.lit (.str "number_of")), (.nm 2), (.nm 8), (.lit .non)]), (.nm 7)]))) [
      .ret (.lit (.bl false))] [],
    .ret (.call 20 [(.call 24 [(.lit (.str "packet_of")), (.nm 2), (.nm 7), (.lit .non)]), (.nm 8)])] [some (.val .st), x1, some (.val (sh b l)), x3, x4, x5, x6, x7, x8] g = .rt (.bl true) g' ∧ Ok g' := by
  have h1 := G.b1
  have h2 := G.b2
  have h3 := G.l2
  have c25 : ∀ g, Mi.call T (k + 9) 25 [sh b l] g = .ok (.int (ahead b (l + 1))) g := fun g => law_count_ok (k := k + 8) b l h2 (by omega)
  have ah : ahead b (l + 1) = ahead b l + b ^ l := rfl
  have bp := Nat.pow_pos (n := l) (show 0 < b by omega)
  have lstS : ∀ g, biG g .list [sh b l] = some (.lst [.int b, .int l]) := fun g => rfl
  have ix0 : ∀ g, ixG g (sh b l) (.int 0) = some (.int b) := fun g => by unfold sh; simp
  have ix1 : ∀ g, ixG g (sh b l) (.int 1) = some (.int l) := fun g => by unfold sh; simp
  have e1 := aa (k := k) (g := g) (s := .lst [.int b, .int l]) G (.inr rfl) (x := .non) (y := .non) hN
  generalize hA : D.tup ((allP b (l + 1)).map TP) = A at e1
  have lenA : ∀ g, biG g .len [A] = some (.int (ahead b (l + 1))) := fun g => by rw [← hA, bi_lenT, List.length_map, allP_len]
  have isiA : isiD A [.tuple] = some true := by rw [← hA]; rfl
  have at_ : ∀ (i v : Nat), i < l + 1 → v < b ^ i → ∀ g, ixG g A (.int ((ahead b i + v : Nat) : Int)) = some (TP (digs b i v)) := fun i v hi hv g => by
    rw [← hA]
    show atI _ _ = _
    rw [Mi.Pl.atI_nat, List.getElem?_map, allP_get b (l + 1) i v hi hv]
    rfl
  have at0 : ∀ g, ixG g A (.int 0) = some (.tup []) := fun g => at_ 0 0 (by omega) (by simp) g
  have vm := val_max (show 0 < b by omega) l
  generalize hlast : List.replicate l (b - 1) = last at vm
  have ll : last.length = l := by rw [← hlast]; simp
  have m1 : opD .mul (.tup [.int ((b : Int) - 1)]) (.int (l : Int)) = some (TP last) := by
    rw [opD_mulT (by simp) (by omega) (by omega) (by simp), rep_DPI _ _ (by omega)]
    have e : ((b : Int) - 1).toNat = b - 1 := by omega
    rw [e, Int.toNat_natCast, hlast]
    rfl
  have dl : digs b l (val b last) = last := by
    have := digs_val (show 0 < b by omega) last (fun s hs => by
      rw [← hlast] at hs
      have := (List.mem_replicate.mp hs).2
      omega)
    rwa [ll] at this
  have atL : ∀ g, ixG g A (.int (((ahead b (l + 1) : Nat) : Int) - 1)) = some (TP last) := fun g => by
    have := at_ l (val b last) (by omega) (by omega) g
    rw [dl] at this
    rw [← this]
    congr 2
    omega
  obtain ⟨w, g1, d1, q, q', o1⟩ := draw_ok (k := k + 8) h (m := (ahead b (l + 1) : Int)) (by omega) (by omega)
  have d1' : Mi.call T (k + 9) 23 [.st, .int (ahead b (l + 1))] g = .ok (.int w) g1 := d1
  obtain ⟨n, rfl⟩ := Int.eq_ofNat_of_zero_le q
  obtain ⟨i, v, i1, i2, rfl⟩ := split_num b (l + 1) n (by omega)
  have e32 : Mi.call T (k + 9) 32 [sh b l, .int ((ahead b i + v : Nat) : Int)] g1 = .ok (TP (digs b i v)) g1 := law_packet_at_ok (k := k + 8) G (by omega) i2
  have pk : Pk b l (digs b i v) := ⟨digs_lt (by omega) i v, by rw [digs_len]; omega⟩
  have e3 := an (k := k) (g := g1) (s := sh b l) G (.inl rfl) (e := TP (digs b i v)) (y := .non) pk (.inl rfl)
  rw [digs_len, val_digs (by omega) i v i2] at e3
  have e4 := ap (k := k) (g := g1) (s := sh b l) G (.inl rfl) (m := i) (v := v) (y := .non) (by omega) i2
  have okq : okD 2 (TP (digs b i v)) = true := okD_TP 0 (by rw [digs_len]; omega)
  have s0 := sj (k := k) (g := g) (n := 1) (by decide) (show okD 1 (.tup []) = true from rfl)
  have s1 := sj (k := k) (g := g) (n := 2) (by decide) (okD_TP 0 (p := last) (by omega))
  have s2 := sj (k := k) (g := g1) (n := 2) (by decide) okq
  have t1 := tj (k := k) (g := g1) (n := 1) (by decide) (show okD 1 (.int ((ahead b i + v : Nat) : Int)) = true from rfl)
  have t2 := tj (k := k) (g := g1) (n := 2) (by decide) okq
  have atN := at_ i v i1 i2
  have x0 : ∀ g, ixG g (.tup [.str "told", A]) (.int 0) = some (.str "told") := fun g => rfl
  have x1 : ∀ g, ixG g (.tup [.str "told", A]) (.int 1) = some A := fun g => rfl
  have ne0 : cmpD .ne (.str "told") (.str "told") = some false := by decide +kernel
  refine ⟨g1, ?_, o1⟩
  generalize hT : D.tup [.str "told", A] = TA at *
  generalize hQ : TP (digs b i v) = Q at *
  generalize hI : (((ahead b i + v : Nat) : Nat) : Int) = I at *
  simp [c25, lstS, ix0, ix1, e1, lenA, isiA, at0, atL, m1, d1', e32, e3, e4, s0, s1, s2, t1, t2, atN, x0, x1, ne0, -opD_mulT]
theorem many_ok (h : Ok g) : ∃ g', Mi.call T (k + 10) 34 [.st] g = .ok (.bl true) g' ∧ Ok g' := by
  rw [call_def d_law_many_stands rfl]
  unfold b_law_many_stands
  have sl2 : 2 ≤ sizeLine := by decide
  have sl13 : 13 ≤ sizeLine := by decide
  have sl12 : 12 ≤ sizeLine := by decide
  have sl5 : 5 ≤ sizeLine := by decide
  obtain ⟨w1, g1, d1, q1, q1', o1⟩ := draw_ok (k := k + 8) h (m := 13) (by decide) (by decide)
  obtain ⟨⟨B, L⟩, hp, a1⟩ := pick_sh (ps := least13) q1 q1'
  obtain ⟨w2, g2, d2, q2, q2', o2⟩ := draw_ok (k := k + 8) o1 (m := 3) (by decide) (by decide)
  obtain ⟨n2, rfl⟩ := Int.eq_ofNat_of_zero_le q2
  obtain ⟨G2, many⟩ := least_at hp (w := n2) (by omega)
  obtain ⟨w3, g3, d3, q3, q3', o3⟩ := draw_ok (k := k + 8) o2 (m := 3) (by decide) (by decide)
  have d1' : Mi.call T (k + 9) 23 [.st, .int 13] g = .ok (.int w1) g1 := d1
  have d2' : Mi.call T (k + 9) 23 [.st, .int 3] g1 = .ok (.int (n2 : Int)) g2 := d2
  have d3' : Mi.call T (k + 9) 23 [.st, .int 3] g2 = .ok (.int w3) g3 := d3
  generalize hb : min 256 (B + n2) = b at *
  have mn : ∀ g, biG g .min2 [.int 256, .int ((B : Int) + (n2 : Int))] = some (.int (b : Int)) := fun g => by
    rw [bi_min]
    congr 2
    split <;> omega
  have c24 : Mi.call T (k + 9) 24 [.str "all_packets", sh b L, .non, .non] g2 = .ok (.tup [.str "raised", .lst [.str "many"], .str "packets"]) g2 :=
    bad_all (k := k + 7) (j := 9) (.inr (.inr (.inr rfl))) rfl (all_many (k := k + 3) G2 (.inl rfl) many)
  have c21 := rj (k := k) (g := g2) kind9 (d := .str "packets") rfl
  have ix0 : ∀ g b l, ixG g (sh b l) (.int 0) = some (.int b) := fun g b l => by unfold sh; simp
  have ix1 : ∀ g b l, ixG g (sh b l) (.int 1) = some (.int l) := fun g b l => by unfold sh; simp
  have tup : ∀ b L : Nat, D.tup [.int b, .int L] = sh b L := fun b L => rfl
  have s1 : exL (Mi.call T (k + 9)) (b_law_many_stands.take 4) (envOf [.st] 9) g = .nx [some (.val .st), some (.own (shs least13)), some (.val (sh B L)), some (.val (sh b L)), none, none, none, none, none] g2 := by
    have a1' : ixG g1 (.lst (shs least13)) (.int w1) = some (sh B L) := a1
    unfold b_law_many_stands
    show exL _ [_, _, _, _] _ _ = _
    rw [exL_cons]
    have z0 : exS (Mi.call T (k + 9)) (.asg 1 (.lst [(.tup [(.lit (.int 71)), (.lit (.int 2))]), (.tup [(.lit (.int 17)), (.lit (.int 3))]), (.tup [(.lit (.int 9)), (.lit (.int 4))]), (.tup [(.lit (.int 6)), (.lit (.int 5))]), (.tup [(.lit (.int 4)), (.lit (.int 6))]), (.tup [(.lit (.int 4)), (.lit (.int 7))]), (.tup [(.lit (.int 4)), (.lit (.int 8))]), (.tup [(.lit (.int 3)), (.lit (.int 8))]), (.tup [(.lit (.int 3)), (.lit (.int 9))]), (.tup [(.lit (.int 3)), (.lit (.int 11))]), (.tup [(.lit (.int 2)), (.lit (.int 12))]), (.tup [(.lit (.int 256)), (.lit (.int 2))]), (.tup [(.lit (.int 256)), (.lit (.int 12))])])) (envOf [.st] 9) g = .nx [some (.val .st), some (.own (shs least13)), none, none, none, none, none, none, none] g := by
      simp [sl13, sl2, shs, least13, sh]
    rw [z0, SR.seq_nx]
    have len : ∀ g, biG g .len [.lst (shs least13)] = some (.int 13) := fun g => rfl
    generalize shs least13 = V at *
    simp [len, d1', a1', d2', mn, ix0, ix1, sl2, tup, c24, c21]
  have e1 := exL_split (c := Mi.call T (k + 9)) 4 s1
  have two : ∃ (ps : List (Nat × Nat)) (V : Cell), V = .own (shs ps) ∧ ps ≠ [] ∧ ps.length ≤ 12 ∧ (∀ p ∈ ps, p ∈ most12 ++ most5) ∧
      exL (Mi.call T (k + 9)) ((b_law_many_stands.drop 4).take 2) [some (.val .st), some (.own (shs least13)), some (.val (sh B L)), some (.val (sh b L)), none, none, none, none, none] g2 = .nx [some (.val .st), some (.own (shs least13)), some (.val (sh B L)), some (.val (sh b L)), some V, none, none, none, none] g3 := by
    unfold b_law_many_stands
    generalize shs least13 = V13
    by_cases hz : 0 < w3
    · refine ⟨most5, _, rfl, by decide, by decide, fun p hp => List.mem_append_right _ hp, ?_⟩
      show exL _ [_, _] _ _ = _
      simp [sl12, sl5, sl2, d3', hz, shs, most5, sh]
    · refine ⟨most12, _, rfl, by decide, by decide, fun p hp => List.mem_append_left _ hp, ?_⟩
      show exL _ [_, _] _ _ = _
      simp [sl12, sl5, sl2, d3', hz, shs, most12, sh]
  obtain ⟨ps, V, rfl, hne, hl, hin, e2⟩ := two
  have e2 := exL_split (c := Mi.call T (k + 9)) 2 e2
  have hpos : 0 < ps.length := List.length_pos_iff.mpr hne
  obtain ⟨w4, g4, d4, q4, q4', o4⟩ := draw_ok (k := k + 8) o3 (m := (ps.length : Int)) (by omega) (by omega)
  obtain ⟨⟨b2, l2⟩, hp2, a4⟩ := pick_sh (ps := ps) q4 q4'
  obtain ⟨G4, hN⟩ := most_at (hin _ hp2)
  have d4' : Mi.call T (k + 9) 23 [.st, .int (ps.length : Int)] g3 = .ok (.int w4) g4 := d4
  have e3 : exL (Mi.call T (k + 9)) (((b_law_many_stands.drop 4).drop 2).take 1) [some (.val .st), some (.own (shs least13)), some (.val (sh B L)), some (.val (sh b L)), some (.own (shs ps)), none, none, none, none] g3 = .nx [some (.val .st), some (.own (shs least13)), some (.val (sh b2 l2)), some (.val (sh b L)), some (.own (shs ps)), none, none, none, none] g4 := by
    have a4' : ixG g4 (.lst (shs ps)) (.int w4) = some (sh b2 l2) := a4
    have len : ∀ g, biG g .len [.lst (shs ps)] = some (.int (ps.length : Int)) := fun g => by
      rw [bi_lenL]
      unfold shs
      rw [List.length_map]
    unfold b_law_many_stands
    show exL _ [_] _ _ = _
    generalize shs least13 = V13
    generalize shs ps = V at *
    simp [len, d4', a4']
  have e3 := exL_split (c := Mi.call T (k + 9)) 1 e3
  obtain ⟨g5, e4, o5⟩ := few_ok (k := k) G4 hN (x1 := some (.own (shs least13))) (x3 := some (.val (sh b L))) (x4 := some (.own (shs ps))) (x5 := none) (x6 := none) (x7 := none) (x8 := none) o4
  refine ⟨g5, ?_, o5⟩
  show fin (exL _ b_law_many_stands _ _) = _
  rw [e1, e2, e3]
  show fin (exL _ [_, _, _, _, _, _, _, _] _ _) = _
  rw [e4]
  rfl
end
end K01


set_option Elab.async false
set_option maxRecDepth 10000
set_option linter.unusedSimpArgs false
/-! k01: the law. -/
namespace K01
open PySem L2 Mi Mi.Pl
theorem first_ok {g : Gs} (h : Ok g) : ∃ (b l : Nat) (x : Option Cell) (g' : Gs), exL (Mi.call T 30) (b_law.take 4) [none, some (.val .st), none, none, none, none] g = .nx [none, some (.val .st), some (.val (sh b l)), x, none, none] g' ∧ Good b l ∧ Ok g' := by
  have sl2 : 2 ≤ sizeLine := by decide
  have sl4 : 4 ≤ sizeLine := by decide
  obtain ⟨w1, g1, d1, q1, q1', o1⟩ := draw_ok (k := 29) h (m := 4) (by decide) (by decide)
  obtain ⟨w2, g2, d2, q2, q2', o2⟩ := draw_ok (k := 29) o1 (m := 5) (by decide) (by decide)
  obtain ⟨w3, g3, d3, q3, q3', o3⟩ := draw_ok (k := 29) o2 (m := 4) (by decide) (by decide)
  have d1' : Mi.call T 30 23 [.st, .int 4] g = .ok (.int w1) g1 := d1
  have d2' : Mi.call T 30 23 [.st, .int 5] g1 = .ok (.int w2) g2 := d2
  have d3' : Mi.call T 30 23 [.st, .int 4] g2 = .ok (.int w3) g3 := d3
  by_cases h0 : w3 = 0
  · subst h0
    obtain ⟨w4, g4, d4, q4, q4', o4⟩ := draw_ok (k := 29) o3 (m := 255) (by decide) (by decide)
    obtain ⟨w5, g5, d5, q5, q5', o5⟩ := draw_ok (k := 29) o4 (m := 13) (by decide) (by decide)
    have d4' : Mi.call T 30 23 [.st, .int 255] g3 = .ok (.int w4) g4 := d4
    have d5' : Mi.call T 30 23 [.st, .int 13] g4 = .ok (.int w5) g5 := d5
    refine ⟨(2 + w4).toNat, w5.toNat, some (.val (.int 0)), g5, ?_, ⟨by omega, by omega, by omega⟩, o5⟩
    have e1 : sh (2 + w4).toNat w5.toNat = .tup [.int (2 + w4), .int w5] := by
      unfold sh
      rw [Int.toNat_of_nonneg (by omega), Int.toNat_of_nonneg q5]
    rw [e1]
    unfold b_law
    show exL _ [_, _, _, _] _ _ = _
    simp [d1', d2', d3', d4', d5', sl2]
  · by_cases h1 : w3 = 1
    · subst h1
      obtain ⟨w4, g4, d4, q4, q4', o4⟩ := draw_ok (k := 29) o3 (m := 4) (by decide) (by decide)
      obtain ⟨w5, g5, d5, q5, q5', o5⟩ := draw_ok (k := 29) o4 (m := 4) (by decide) (by decide)
      have d4' : Mi.call T 30 23 [.st, .int 4] g3 = .ok (.int w4) g4 := d4
      have d5' : Mi.call T 30 23 [.st, .int 4] g4 = .ok (.int w5) g5 := d5
      obtain ⟨_, a6, b6, rfl, h6, h6'⟩ := pick (xs := [D.int 2, .int 256, .int 255, .int 3]) q4 (by simpa using q4') (fun d => ∃ n : Nat, d = .int n ∧ 2 ≤ n ∧ n ≤ 256) (by
        intro x hx
        simp only [List.mem_cons, List.not_mem_nil, or_false] at hx
        rcases hx with rfl | rfl | rfl | rfl
        · exact ⟨2, rfl, by decide, by decide⟩
        · exact ⟨256, rfl, by decide, by decide⟩
        · exact ⟨255, rfl, by decide, by decide⟩
        · exact ⟨3, rfl, by decide, by decide⟩)
      obtain ⟨_, a7, l7, rfl, h7⟩ := pick (xs := [D.int 12, .int 0, .int 1, .int 11]) q5 (by simpa using q5') (fun d => ∃ n : Nat, d = .int n ∧ n ≤ 12) (by
        intro x hx
        simp only [List.mem_cons, List.not_mem_nil, or_false] at hx
        rcases hx with rfl | rfl | rfl | rfl
        · exact ⟨12, rfl, by decide⟩
        · exact ⟨0, rfl, by decide⟩
        · exact ⟨1, rfl, by decide⟩
        · exact ⟨11, rfl, by decide⟩)
      refine ⟨b6, l7, some (.val (.int 1)), g5, ?_, ⟨h6, h6', h7⟩, o5⟩
      unfold b_law sh
      show exL _ [_, _, _, _] _ _ = _
      simp [d1', d2', d3', d4', d5', a6, a7, sl2, sl4]
    · have z0 : (w3 == 0) = false := by simpa using h0
      have z1 : (w3 == 1) = false := by simpa using h1
      refine ⟨(2 + w1).toNat, w2.toNat, some (.val (.int w3)), g3, ?_, ⟨by omega, by omega, by omega⟩, o3⟩
      have e1 : sh (2 + w1).toNat w2.toNat = .tup [.int (2 + w1), .int w2] := by
        unfold sh
        rw [Int.toNat_of_nonneg (by omega), Int.toNat_of_nonneg q2]
      rw [e1]
      unfold b_law
      show exL _ [_, _, _, _] _ _ = _
      simp [d1', d2', d3', z0, z1, sl2]
theorem law_rest {g : Gs} (h : Ok g) : ∃ g', exL (Mi.call T 30) b_law [none, some (.val .st), none, none, none, none] g = .rt (.bl true) g' := by
  obtain ⟨b, l, x3, g1, e1, G, o1⟩ := first_ok h
  rw [exL_split (c := Mi.call T 30) 4 e1]
  obtain ⟨p, g2, e2, hp, o2⟩ := law_packet_ok (k := 28) G o1
  have e2' : Mi.call T 30 27 [.st, sh b l] g1 = .ok (TP p) g2 := e2
  unfold b_law
  show ∃ g', exL _ [_, _, _, _] _ _ = _
  rw [exL_cons]
  have s4 : exS (Mi.call T 30) (.asg 4 (.call 27 [(.nm 1), (.nm 2)])) [none, some (.val .st), some (.val (sh b l)), x3, none, none] g1 = .nx [none, some (.val .st), some (.val (sh b l)), x3, some (.val (TP p)), none] g2 := by
    simp [e2']
  rw [s4, SR.seq_nx, exL_cons]
  obtain ⟨ρ3, g3, l3, x5, rfl, o3⟩ := forS_inv (c := Mi.call T 30) (g := g2) (i := 5) (it := .irng1 (.lit (.int 3))) (body := [.ife (.tnot (.call 30 [(.nm 1), (.nm 2), (.nm 4)])) [.ret (.lit (.bl false))] []]) (ρ0 := [none, some (.val .st), some (.val (sh b l)), x3, some (.val (TP p)), none]) 3
    (fun _ ρ g => ∃ x5, ρ = [none, some (.val .st), some (.val (sh b l)), x3, some (.val (TP p)), x5] ∧ Ok g) ⟨none, rfl, o2⟩ (evJ_rng1 (by simp) (by decide)) (by
      rintro j _ ρ g ⟨x5, rfl, hg⟩
      obtain ⟨g', r, o⟩ := refusals_ok (k := 20) G hp hg
      have r' : Mi.call T 30 30 [.st, sh b l, TP p] g = .ok (.bl true) g' := r
      exact ⟨[none, some (.val .st), some (.val (sh b l)), x3, some (.val (TP p)), some (.val (.int j))], g', by simp [r'], _, rfl, o⟩)
  rw [l3, SR.seq_nx]
  obtain ⟨g4, r4, o4⟩ := bounds_ok (k := 20) G hp o3
  obtain ⟨g5, r5, o5⟩ := twins_ok (k := 20) o4
  obtain ⟨g6, r6, o6⟩ := many_ok (k := 20) o5
  have r4' : Mi.call T 30 31 [.st, sh b l, TP p] g3 = .ok (.bl true) g4 := r4
  have r5' : Mi.call T 30 33 [.st] g4 = .ok (.bl true) g5 := r5
  have r6' : Mi.call T 30 34 [.st] g5 = .ok (.bl true) g6 := r6
  exact ⟨g6, by simp [r4', r5', r6']⟩
theorem plain : Plain T 30 6 1 (fun ds => ds ++ []) 22 b_law := fun ns hns => by
  obtain ⟨great, e, h1, h2⟩ := start_ok (k := 29) (g := offS) hns
  obtain ⟨r1, r2⟩ := start_row h1
  obtain ⟨g', e2⟩ := law_rest (start_good (ns := ns) h2)
  exact ⟨_, _, _, g', e, r1, r2, e2⟩
end K01


open PySem PySem.W PyProof.Rows in
set_option maxRecDepth 100000 in
set_option maxHeartbeats 0 in
theorem PySem.Challenge.cw_packetoaths_k01_shapes_and_packets_refus_holds : PySem.Challenge.rw_packetoaths_k01_shapes_and_packets_refus.Holds := by
  w_on; o_law; k_head; (case hw => w_witness2)
  k_fill
  refine Mi.walk (l := PySem.Challenge.rw_packetoaths_k01_shapes_and_packets_refus) (k := 30) rfl rfl ⟨rfl, by decide, by decide⟩ (fun w h Y => PySem.W.kIn_of Y) ?F
  case F =>
    intro w mg fa h KX G hmg
    refine' Mi.law_mk (l := PySem.Challenge.rw_packetoaths_k01_shapes_and_packets_refus) (st := K01.topS 57) KX G hmg ?aL ?lL ?cL ?kL (K01.tx_law K01.plain) K01.okT
      (K01.T_ds (.cons (Mi.defAt_mk KX G ?a_is_from_to ?l_is_from_to ?c_is_from_to ?k_is_from_to K01.tx_is_from_to) (.cons (Mi.defAt_mk KX G ?a_is_row ?l_is_row ?c_is_row ?k_is_row K01.tx_is_row) (.cons (Mi.defAt_mk KX G ?a_check_number ?l_check_number ?c_check_number ?k_check_number K01.tx_check_number) (.cons (Mi.defAt_mk KX G ?a_checked_shape ?l_checked_shape ?c_checked_shape ?k_checked_shape K01.tx_checked_shape) (.cons (Mi.defAt_mk KX G ?a_power_of ?l_power_of ?c_power_of ?k_power_of K01.tx_power_of) (.cons (Mi.defAt_mk KX G ?a_is_packet ?l_is_packet ?c_is_packet ?k_is_packet K01.tx_is_packet) (.cons (Mi.defAt_mk KX G ?a_checked_packet ?l_checked_packet ?c_checked_packet ?k_checked_packet K01.tx_checked_packet) (.cons (Mi.defAt_mk KX G ?a_count_all ?l_count_all ?c_count_all ?k_count_all K01.tx_count_all) (.cons (Mi.defAt_mk KX G ?a_of_length ?l_of_length ?c_of_length ?k_of_length K01.tx_of_length) (.cons (Mi.defAt_mk KX G ?a_check_few ?l_check_few ?c_check_few ?k_check_few K01.tx_check_few) (.cons (Mi.defAt_mk KX G ?a_listed ?l_listed ?c_listed ?k_listed K01.tx_listed) (.cons (Mi.defAt_mk KX G ?a_count_packets ?l_count_packets ?c_count_packets ?k_count_packets K01.tx_count_packets) (.cons (Mi.defAt_mk KX G ?a_all_packets ?l_all_packets ?c_all_packets ?k_all_packets K01.tx_all_packets) (.cons (Mi.defAt_mk KX G ?a_packet_of ?l_packet_of ?c_packet_of ?k_packet_of K01.tx_packet_of) (.cons (Mi.defAt_mk KX G ?a_number_of ?l_number_of ?c_number_of ?k_number_of K01.tx_number_of) (.cons (Mi.defAt_mk KX G ?a_next_packet ?l_next_packet ?c_next_packet ?k_next_packet K01.tx_next_packet) (.cons (Mi.defAt_mk KX G ?a_cut_packet ?l_cut_packet ?c_cut_packet ?k_cut_packet K01.tx_cut_packet) (.cons (Mi.defAt_mk KX G ?a_law_kinds ?l_law_kinds ?c_law_kinds ?k_law_kinds K01.tx_law_kinds) (.cons (Mi.defAt_mk KX G ?a_law_kept ?l_law_kept ?c_law_kept ?k_law_kept K01.tx_law_kept) (.cons (Mi.defAt_mk KX G ?a_law_same ?l_law_same ?c_law_same ?k_law_same K01.tx_law_same) (.cons (Mi.defAt_mk KX G ?a_law_told ?l_law_told ?c_law_told ?k_law_told K01.tx_law_told) (.cons (Mi.defAt_mk KX G ?a_law_raised ?l_law_raised ?c_law_raised ?k_law_raised K01.tx_law_raised) (.cons (Mi.defAt_mk KX G ?a_law_start ?l_law_start ?c_law_start ?k_law_start K01.tx_law_start) (.cons (Mi.defAt_mk KX G ?a_law_draw ?l_law_draw ?c_law_draw ?k_law_draw K01.tx_law_draw) (.cons (Mi.defAt_mk KX G ?a_law_ask ?l_law_ask ?c_law_ask ?k_law_ask K01.tx_law_ask) (.cons (Mi.defAt_mk KX G ?a_law_count ?l_law_count ?c_law_count ?k_law_count K01.tx_law_count) (.cons (Mi.defAt_mk KX G ?a_law_wrong_shape ?l_law_wrong_shape ?c_law_wrong_shape ?k_law_wrong_shape K01.tx_law_wrong_shape) (.cons (Mi.defAt_mk KX G ?a_law_packet ?l_law_packet ?c_law_packet ?k_law_packet K01.tx_law_packet) (.cons (Mi.defAt_mk KX G ?a_law_wrong_packet ?l_law_wrong_packet ?c_law_wrong_packet ?k_law_wrong_packet K01.tx_law_wrong_packet) (.cons (Mi.defAt_mk KX G ?a_law_wrong_number ?l_law_wrong_number ?c_law_wrong_number ?k_law_wrong_number K01.tx_law_wrong_number) (.cons (Mi.defAt_mk KX G ?a_law_refusals_stand ?l_law_refusals_stand ?c_law_refusals_stand ?k_law_refusals_stand K01.tx_law_refusals_stand) (.cons (Mi.defAt_mk KX G ?a_law_bounds_stand ?l_law_bounds_stand ?c_law_bounds_stand ?k_law_bounds_stand K01.tx_law_bounds_stand) (.cons (Mi.defAt_mk KX G ?a_law_packet_at ?l_law_packet_at ?c_law_packet_at ?k_law_packet_at K01.tx_law_packet_at) (.cons (Mi.defAt_mk KX G ?a_law_twins_stand ?l_law_twins_stand ?c_law_twins_stand ?k_law_twins_stand K01.tx_law_twins_stand) (.cons (Mi.defAt_mk KX G ?a_law_many_stands ?l_law_many_stands ?c_law_many_stands ?k_law_many_stands K01.tx_law_many_stands) .nil))))))))))))))))))))))))))))))))))))
      (.cons (PySem.W.mg_none_of KX G ?z_len) (.cons (PySem.W.mg_none_of KX G ?z_tuple) (.cons (PySem.W.mg_none_of KX G ?z_list) (.cons (PySem.W.mg_none_of KX G ?z_int) (.cons (PySem.W.mg_none_of KX G ?z_sum) (.cons (PySem.W.mg_none_of KX G ?z_all) (.cons (PySem.W.mg_none_of KX G ?z_any) (.cons (PySem.W.mg_none_of KX G ?z_max) (.cons (PySem.W.mg_none_of KX G ?z_min) (.cons (PySem.W.mg_none_of KX G ?z_abs) (.cons (PySem.W.mg_none_of KX G ?z_range) (.cons (PySem.W.mg_none_of KX G ?z_isinstance) (.cons (PySem.W.mg_none_of KX G ?z_bool) (.cons (PySem.W.mg_none_of KX G ?z_str) .nil))))))))))))))
      (.cons (PySem.W.mg_of KX G ?n_LEAST_BASE) (.cons (PySem.W.mg_of KX G ?n_MOST_BASE) (.cons (PySem.W.mg_of KX G ?n_MOST_LENGTH) (.cons (PySem.W.mg_of KX G ?n_MOST_PACKETS) .nil))))
      (Mi.clsAll KX G (.cons (Mi.clsAt1 (j := 0) (x := "InvalidShape") (qual := "InvalidShape.__init__") (f := "shape") KX G ?xsup ?xst ?xtop rfl rfl (by decide) ?x0a ?x0b ?x0i ?x0t ?x0f ?x0k ?x0d ?x0v ?x0p ?x0e ?x0l) (.cons (Mi.clsAt1 (j := 1) (x := "InvalidPacket") (qual := "InvalidPacket.__init__") (f := "packet") KX G ?xsup ?xst ?xtop rfl rfl (by decide) ?x1a ?x1b ?x1i ?x1t ?x1f ?x1k ?x1d ?x1v ?x1p ?x1e ?x1l) (.cons (Mi.clsAt1 (j := 2) (x := "InvalidNumber") (qual := "InvalidNumber.__init__") (f := "number") KX G ?xsup ?xst ?xtop rfl rfl (by decide) ?x2a ?x2b ?x2i ?x2t ?x2f ?x2k ?x2d ?x2v ?x2p ?x2e ?x2l) (.cons (Mi.clsAt1 (j := 3) (x := "InvalidValue") (qual := "InvalidValue.__init__") (f := "value") KX G ?xsup ?xst ?xtop rfl rfl (by decide) ?x3a ?x3b ?x3i ?x3t ?x3f ?x3k ?x3d ?x3v ?x3p ?x3e ?x3l) (.cons (Mi.clsAt1 (j := 4) (x := "InvalidProgram") (qual := "InvalidProgram.__init__") (f := "place") KX G ?xsup ?xst ?xtop rfl rfl (by decide) ?x4a ?x4b ?x4i ?x4t ?x4f ?x4k ?x4d ?x4v ?x4p ?x4e ?x4l) (.cons (Mi.clsAt1 (j := 5) (x := "InvalidSource") (qual := "InvalidSource.__init__") (f := "place") KX G ?xsup ?xst ?xtop rfl rfl (by decide) ?x5a ?x5b ?x5i ?x5t ?x5f ?x5k ?x5d ?x5v ?x5p ?x5e ?x5l) (.cons (Mi.clsAt1 (j := 6) (x := "InvalidRules") (qual := "InvalidRules.__init__") (f := "place") KX G ?xsup ?xst ?xtop rfl rfl (by decide) ?x6a ?x6b ?x6i ?x6t ?x6f ?x6k ?x6d ?x6v ?x6p ?x6e ?x6l) (.cons (Mi.clsAt1 (j := 7) (x := "InvalidText") (qual := "InvalidText.__init__") (f := "place") KX G ?xsup ?xst ?xtop rfl rfl (by decide) ?x7a ?x7b ?x7i ?x7t ?x7f ?x7k ?x7d ?x7v ?x7p ?x7e ?x7l) (.cons (Mi.clsAt1 (j := 8) (x := "InvalidLine") (qual := "InvalidLine.__init__") (f := "place") KX G ?xsup ?xst ?xtop rfl rfl (by decide) ?x8a ?x8b ?x8i ?x8t ?x8f ?x8k ?x8d ?x8v ?x8p ?x8e ?x8l) (.cons (Mi.clsAt1 (j := 9) (x := "TooMany") (qual := "TooMany.__init__") (f := "what") KX G ?xsup ?xst ?xtop rfl rfl (by decide) ?x9a ?x9b ?x9i ?x9t ?x9f ?x9k ?x9d ?x9v ?x9p ?x9e ?x9l) (.cons (Mi.clsAt1 (j := 10) (x := "Undefined") (qual := "Undefined.__init__") (f := "what") KX G ?xsup ?xst ?xtop rfl rfl (by decide) ?x10a ?x10b ?x10i ?x10t ?x10f ?x10k ?x10d ?x10v ?x10p ?x10e ?x10l) (.cons (Mi.clsAt1 (j := 11) (x := "NothingDone") (qual := "NothingDone.__init__") (f := "what") KX G ?xsup ?xst ?xtop rfl rfl (by decide) ?x11a ?x11b ?x11i ?x11t ?x11f ?x11k ?x11d ?x11v ?x11p ?x11e ?x11l) (.cons (Mi.clsAt2 (j := 12) (x := "Refused") (qual := "Refused.__init__") KX G ?xsup ?xst ?xtop rfl rfl ?x12a ?x12b ?x12i ?x12t ?x12f ?x12k ?x12d ?x12v ?x12p ?x12e ?x12l) .nil))))))))))))) (by decide) ?xoath ?xval ?xrel)
    (case aL => k_is)
    (case lL => k_is)
    (case cL => k_is)
    (case kL => k_is)
    (case a_is_from_to => k_is)
    (case l_is_from_to => k_is)
    (case c_is_from_to => k_is)
    (case k_is_from_to => k_is)
    (case a_is_row => k_is)
    (case l_is_row => k_is)
    (case c_is_row => k_is)
    (case k_is_row => k_is)
    (case a_check_number => k_is)
    (case l_check_number => k_is)
    (case c_check_number => k_is)
    (case k_check_number => k_is)
    (case a_checked_shape => k_is)
    (case l_checked_shape => k_is)
    (case c_checked_shape => k_is)
    (case k_checked_shape => k_is)
    (case a_power_of => k_is)
    (case l_power_of => k_is)
    (case c_power_of => k_is)
    (case k_power_of => k_is)
    (case a_is_packet => k_is)
    (case l_is_packet => k_is)
    (case c_is_packet => k_is)
    (case k_is_packet => k_is)
    (case a_checked_packet => k_is)
    (case l_checked_packet => k_is)
    (case c_checked_packet => k_is)
    (case k_checked_packet => k_is)
    (case a_count_all => k_is)
    (case l_count_all => k_is)
    (case c_count_all => k_is)
    (case k_count_all => k_is)
    (case a_of_length => k_is)
    (case l_of_length => k_is)
    (case c_of_length => k_is)
    (case k_of_length => k_is)
    (case a_check_few => k_is)
    (case l_check_few => k_is)
    (case c_check_few => k_is)
    (case k_check_few => k_is)
    (case a_listed => k_is)
    (case l_listed => k_is)
    (case c_listed => k_is)
    (case k_listed => k_is)
    (case a_count_packets => k_is)
    (case l_count_packets => k_is)
    (case c_count_packets => k_is)
    (case k_count_packets => k_is)
    (case a_all_packets => k_is)
    (case l_all_packets => k_is)
    (case c_all_packets => k_is)
    (case k_all_packets => k_is)
    (case a_packet_of => k_is)
    (case l_packet_of => k_is)
    (case c_packet_of => k_is)
    (case k_packet_of => k_is)
    (case a_number_of => k_is)
    (case l_number_of => k_is)
    (case c_number_of => k_is)
    (case k_number_of => k_is)
    (case a_next_packet => k_is)
    (case l_next_packet => k_is)
    (case c_next_packet => k_is)
    (case k_next_packet => k_is)
    (case a_cut_packet => k_is)
    (case l_cut_packet => k_is)
    (case c_cut_packet => k_is)
    (case k_cut_packet => k_is)
    (case a_law_kinds => k_is)
    (case l_law_kinds => k_is)
    (case c_law_kinds => k_is)
    (case k_law_kinds => k_is)
    (case a_law_kept => k_is)
    (case l_law_kept => k_is)
    (case c_law_kept => k_is)
    (case k_law_kept => k_is)
    (case a_law_same => k_is)
    (case l_law_same => k_is)
    (case c_law_same => k_is)
    (case k_law_same => k_is)
    (case a_law_told => k_is)
    (case l_law_told => k_is)
    (case c_law_told => k_is)
    (case k_law_told => k_is)
    (case a_law_raised => k_is)
    (case l_law_raised => k_is)
    (case c_law_raised => k_is)
    (case k_law_raised => k_is)
    (case a_law_start => k_is)
    (case l_law_start => k_is)
    (case c_law_start => k_is)
    (case k_law_start => k_is)
    (case a_law_draw => k_is)
    (case l_law_draw => k_is)
    (case c_law_draw => k_is)
    (case k_law_draw => k_is)
    (case a_law_ask => k_is)
    (case l_law_ask => k_is)
    (case c_law_ask => k_is)
    (case k_law_ask => k_is)
    (case a_law_count => k_is)
    (case l_law_count => k_is)
    (case c_law_count => k_is)
    (case k_law_count => k_is)
    (case a_law_wrong_shape => k_is)
    (case l_law_wrong_shape => k_is)
    (case c_law_wrong_shape => k_is)
    (case k_law_wrong_shape => k_is)
    (case a_law_packet => k_is)
    (case l_law_packet => k_is)
    (case c_law_packet => k_is)
    (case k_law_packet => k_is)
    (case a_law_wrong_packet => k_is)
    (case l_law_wrong_packet => k_is)
    (case c_law_wrong_packet => k_is)
    (case k_law_wrong_packet => k_is)
    (case a_law_wrong_number => k_is)
    (case l_law_wrong_number => k_is)
    (case c_law_wrong_number => k_is)
    (case k_law_wrong_number => k_is)
    (case a_law_refusals_stand => k_is)
    (case l_law_refusals_stand => k_is)
    (case c_law_refusals_stand => k_is)
    (case k_law_refusals_stand => k_is)
    (case a_law_bounds_stand => k_is)
    (case l_law_bounds_stand => k_is)
    (case c_law_bounds_stand => k_is)
    (case k_law_bounds_stand => k_is)
    (case a_law_packet_at => k_is)
    (case l_law_packet_at => k_is)
    (case c_law_packet_at => k_is)
    (case k_law_packet_at => k_is)
    (case a_law_twins_stand => k_is)
    (case l_law_twins_stand => k_is)
    (case c_law_twins_stand => k_is)
    (case k_law_twins_stand => k_is)
    (case a_law_many_stands => k_is)
    (case l_law_many_stands => k_is)
    (case c_law_many_stands => k_is)
    (case k_law_many_stands => k_is)
    (case z_len => k_is)
    (case z_tuple => k_is)
    (case z_list => k_is)
    (case z_int => k_is)
    (case z_sum => k_is)
    (case z_all => k_is)
    (case z_any => k_is)
    (case z_max => k_is)
    (case z_min => k_is)
    (case z_abs => k_is)
    (case z_range => k_is)
    (case z_isinstance => k_is)
    (case z_bool => k_is)
    (case z_str => k_is)
    (case n_LEAST_BASE => k_is)
    (case n_MOST_BASE => k_is)
    (case n_MOST_LENGTH => k_is)
    (case n_MOST_PACKETS => k_is)
    (case xsup => k_is)
    (case xst => kernel_rfl)
    (case xtop => kernel_rfl)
    (case x0a => k_is)
    (case x0i => k_is)
    (case x0t => k_is)
    (case x0f => k_is)
    (case x0k => k_is)
    (case x0d => k_is)
    (case x0v => rfl)
    (case x0p => kernel_rfl)
    (case x0e => k_is)
    (case x0l => rfl)
    (case x0b => kernel_rfl)
    (case x1a => k_is)
    (case x1i => k_is)
    (case x1t => k_is)
    (case x1f => k_is)
    (case x1k => k_is)
    (case x1d => k_is)
    (case x1v => rfl)
    (case x1p => kernel_rfl)
    (case x1e => k_is)
    (case x1l => rfl)
    (case x1b => kernel_rfl)
    (case x2a => k_is)
    (case x2i => k_is)
    (case x2t => k_is)
    (case x2f => k_is)
    (case x2k => k_is)
    (case x2d => k_is)
    (case x2v => rfl)
    (case x2p => kernel_rfl)
    (case x2e => k_is)
    (case x2l => rfl)
    (case x2b => kernel_rfl)
    (case x3a => k_is)
    (case x3i => k_is)
    (case x3t => k_is)
    (case x3f => k_is)
    (case x3k => k_is)
    (case x3d => k_is)
    (case x3v => rfl)
    (case x3p => kernel_rfl)
    (case x3e => k_is)
    (case x3l => rfl)
    (case x3b => kernel_rfl)
    (case x4a => k_is)
    (case x4i => k_is)
    (case x4t => k_is)
    (case x4f => k_is)
    (case x4k => k_is)
    (case x4d => k_is)
    (case x4v => rfl)
    (case x4p => kernel_rfl)
    (case x4e => k_is)
    (case x4l => rfl)
    (case x4b => kernel_rfl)
    (case x5a => k_is)
    (case x5i => k_is)
    (case x5t => k_is)
    (case x5f => k_is)
    (case x5k => k_is)
    (case x5d => k_is)
    (case x5v => rfl)
    (case x5p => kernel_rfl)
    (case x5e => k_is)
    (case x5l => rfl)
    (case x5b => kernel_rfl)
    (case x6a => k_is)
    (case x6i => k_is)
    (case x6t => k_is)
    (case x6f => k_is)
    (case x6k => k_is)
    (case x6d => k_is)
    (case x6v => rfl)
    (case x6p => kernel_rfl)
    (case x6e => k_is)
    (case x6l => rfl)
    (case x6b => kernel_rfl)
    (case x7a => k_is)
    (case x7i => k_is)
    (case x7t => k_is)
    (case x7f => k_is)
    (case x7k => k_is)
    (case x7d => k_is)
    (case x7v => rfl)
    (case x7p => kernel_rfl)
    (case x7e => k_is)
    (case x7l => rfl)
    (case x7b => kernel_rfl)
    (case x8a => k_is)
    (case x8i => k_is)
    (case x8t => k_is)
    (case x8f => k_is)
    (case x8k => k_is)
    (case x8d => k_is)
    (case x8v => rfl)
    (case x8p => kernel_rfl)
    (case x8e => k_is)
    (case x8l => rfl)
    (case x8b => kernel_rfl)
    (case x9a => k_is)
    (case x9i => k_is)
    (case x9t => k_is)
    (case x9f => k_is)
    (case x9k => k_is)
    (case x9d => k_is)
    (case x9v => rfl)
    (case x9p => kernel_rfl)
    (case x9e => k_is)
    (case x9l => rfl)
    (case x9b => kernel_rfl)
    (case x10a => k_is)
    (case x10i => k_is)
    (case x10t => k_is)
    (case x10f => k_is)
    (case x10k => k_is)
    (case x10d => k_is)
    (case x10v => rfl)
    (case x10p => kernel_rfl)
    (case x10e => k_is)
    (case x10l => rfl)
    (case x10b => kernel_rfl)
    (case x11a => k_is)
    (case x11i => k_is)
    (case x11t => k_is)
    (case x11f => k_is)
    (case x11k => k_is)
    (case x11d => k_is)
    (case x11v => rfl)
    (case x11p => kernel_rfl)
    (case x11e => k_is)
    (case x11l => rfl)
    (case x11b => kernel_rfl)
    (case x12a => k_is)
    (case x12i => k_is)
    (case x12t => k_is)
    (case x12f => k_is)
    (case x12k => k_is)
    (case x12d => k_is)
    (case x12v => rfl)
    (case x12p => kernel_rfl)
    (case x12e => k_is)
    (case x12l => rfl)
    (case x12b => kernel_rfl)
    (case xoath => k_is)
    (case xval => k_is)
    (case xrel => kernel_rfl)
