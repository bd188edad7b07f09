import PyProof.Rows.All
import Wide.All
import OpenK.AllK
import Wide.FinOn
import HandS.ForMost
import HandS.TupMul
import HandS.TupAny
import HandS.Wide
import HandS.WideBits
import HandS.Deep
import HandS.TupLe
import HandS.Flow
import HandS.SortRule
import HandS.NamedTupSort
import KE.KSortTup
import HandS.List
import KE.KTupSum
import HandS.SortInts
import HandS.IsInst
import HandS.NoneIn
import HandS.Zip
import HandS.Iter
import HandS.Conv
import KE.GoesEnum
import KE.GoesZip
import KE.GoesMore
import HandS.Words
import HandS.Defaults
import HandS.Style
import HandS.CallLocal
import PySem.Challenge.RW_eachagainst_k51_whole_points_by_halves
set_option Elab.async false
set_option linter.all false
set_option maxRecDepth 100000
set_option maxHeartbeats 4000000
set_option autoImplicit false
/-! tuple * 1, tuple * 0 -/
namespace HT
open PySem PySem.Spec PyProof.Rows L2
theorem tuple_mul1 (l : Addr) (items : Array Value) (n : Nat) (dd : Option Addr) (sl : Array (Option Value)) (u : Tok) :
    Meets (Builtin.«tuple.__mul__» ⟨[.ref l, .int 1 u], []⟩) (fun _ R s => s.heap.get? l = some { cls := .type "tuple", dict := dd, data := .seq items n, slots := sl } ∧ R (.ok (.ret (Value.ref l))) s) :=
  .of_wp fun prog w A R s h => by
    obtain ⟨hp, g, d, tk, os⟩ := s
    obtain ⟨hl, h⟩ := h
    have f1 := AutoSeq1.idx_int
    have c1 : (items.isEmpty || (1 : Int) == 1) = true := by simp
    wp_walk using wpAny_loadPart' hl
    repeat (first
      | (refine wpAny_ite_true (decide_eq_true c1) ?_; wp_walk using wpAny_loadPart' hl))
    exact ⟨_, rfl, h⟩
theorem tuple_mul0 (l : Addr) (items : Array Value) (n : Nat) (dd : Option Addr) (sl : Array (Option Value)) (x : Int) (u : Tok) (c0 : (decide (x < -(2 ^ 63)) || decide (x ≥ 2 ^ 63)) = false) (c1 : (items.isEmpty || x == 1) = false) (c2 : (decide (x ≤ 0) || items.isEmpty) = true) :
    Meets (Builtin.«tuple.__mul__» ⟨[.ref l, .int x u], []⟩) (fun _ R s => s.heap.get? l = some { cls := .type "tuple", dict := dd, data := .seq items n, slots := sl } ∧
      R (.ok (.ret (Value.ref s.heap.objs.size))) { s with heap := s.heap.push { cls := Value.type "tuple", data := Data.seq #[] }, toks := s.toks }) :=
  .of_wp fun prog w A R s h => by
    obtain ⟨hp, g, d, tk, os⟩ := s
    obtain ⟨hl, h⟩ := h
    have f1 := AutoSeq1.idx_int
    wp_walk using wpAny_loadPart' hl
    repeat (first
      | (refine wpAny_ite_false (decide_eq_false (by rw [c0]; exact Bool.false_ne_true)) ?_; wp_walk using wpAny_loadPart' hl)
      | (refine wpAny_ite_false (decide_eq_false (by rw [c1]; exact Bool.false_ne_true)) ?_; wp_walk using wpAny_loadPart' hl)
      | (refine wpAny_ite_true (decide_eq_true c2) ?_; wp_walk using wpAny_loadPart' hl))
    exact ⟨_, rfl, h⟩
end HT
namespace HT
open PySem PySem.Spec PyProof.Rows L2
/-- once: the same; no more than never: the empty one -/
def rRepT1 (K : PySem.W.Frag) : R2 := fun x y H Q => ∃ l k xs, x = .ref l ∧ y = .int k ∧ SqT K H l xs ∧ xs ≠ [] ∧ -1000 ≤ k ∧ ((k = 1 ∧ Q (.ref l) H) ∨ (k ≤ 0 ∧ ∀ p, H p = none → Q (.ref p) (upd H p (.tup []))))
theorem op_repT1 {X : Cx} : OpR X (binaryOp .Mult) (rRepT1 X.K) := by
  intro pins s σ H x y v u Q I rx ry h
  obtain ⟨l, k, xs, rfl, rfl, hT, hne, hk, q⟩ := h
  cases rx
  obtain ⟨t, rfl⟩ := ry
  obtain ⟨its, r, ⟨⟨cls, dd, data, sl⟩, ho, hc, n, hd⟩, hs⟩ := I.tuple hT
  simp only at hc hd
  subst hc hd
  have hle : its.length = xs.length := r.length.symm
  have hn : its ≠ [] := fun e => hne (by
    rw [e] at hle
    exact List.eq_nil_of_length_eq_zero hle.symm)
  have hi : its.toArray.isEmpty = false := by
    cases its with
    | nil => exact absurd rfl hn
    | cons a b => rfl
  rcases q with ⟨rfl, q⟩ | ⟨h0, q⟩
  · exact wpAny_binaryOp_repeat_ref (T := "tuple") (U := "int") (by decide) ⟨_, ho, rfl⟩ (fun s' => typeIs_int s' 1 t) noFill_tuple_mul F.fills_int_mul F.slot_int_rmul repeat_tuple F.slot_int_index.lookup
      (call_meets F.slot_int_rmul (typeIs_int s 1 t) F.entry_int_rmul (F.args_int_rmul_2 _ _) (int_rmul_tuple 1 t l its.toArray n dd sl)
        ⟨ho, rfl, ⟨_, ho, rfl⟩, call_meets F.slot_tuple_mul ⟨_, ho, rfl⟩ F.entry_tuple_mul (F.args_tuple_mul_2 _ _) (tuple_mul1 l its.toArray n dd sl t) ⟨ho, ⟨.ref l, H, I, rfl, q⟩⟩⟩)
  · have c0 : (decide (k < -(2 ^ 63)) || decide (k ≥ 2 ^ 63)) = false := by
      rw [decide_eq_false (by omega), decide_eq_false (by omega)] <;> rfl
    have c1 : (its.toArray.isEmpty || k == 1) = false := by
      rw [hi, Bool.false_or]
      exact beq_eq_false_iff_ne.mpr (by omega)
    have c2 : (decide (k ≤ 0) || its.toArray.isEmpty) = true := by
      rw [decide_eq_true h0]; rfl
    refine wpAny_binaryOp_repeat_ref (T := "tuple") (U := "int") (by decide) ⟨_, ho, rfl⟩ (fun s' => typeIs_int s' k t) noFill_tuple_mul F.fills_int_mul F.slot_int_rmul repeat_tuple F.slot_int_index.lookup
      (call_meets F.slot_int_rmul (typeIs_int s k t) F.entry_int_rmul (F.args_int_rmul_2 _ _) (int_rmul_tuple k t l its.toArray n dd sl)
        ⟨ho, rfl, ⟨_, ho, rfl⟩, call_meets F.slot_tuple_mul ⟨_, ho, rfl⟩ F.entry_tuple_mul (F.args_tuple_mul_2 _ _) (tuple_mul0 l its.toArray n dd sl k t c0 c1 c2) ⟨ho, ?_⟩⟩)
    refine ⟨.ref s.heap.objs.size, _, I.laid (t' := s.toks) (o := .tup []) (fun b ob q => Heap.get?_push_of_some _ q) (Nat.le_refl _) ?_, rfl, q _ (I.hok.fresh (Nat.le_refl _))⟩
    exact ⟨Nat.zero_le _, _, .nil, IsTup.new _ _⟩
end HT

set_option Elab.async false
set_option linter.all false
set_option maxRecDepth 100000
/-! a small evaluator of the programs' own fragment of Python, by values -/
namespace HT
open PySem
def stpI (k : Int) (n : Nat) (m : Nat) : Nat := ((Builtin.Slice.sliceAdjust none none k (n : Int)).1 + (m : Int) * k).toNat
def stpN (k : Int) (n : Nat) : Nat := Builtin.Slice.slicePlaces (Builtin.Slice.sliceAdjust none none k (n : Int)).1 (Builtin.Slice.sliceAdjust none none k (n : Int)).2 k
def stpPick {α : Type} (k : Int) (xs : List α) : List α := (List.range (stpN k xs.length)).filterMap fun m => xs[stpI k xs.length m]?
end HT
namespace Ev
open PySem (Str PyData)

/-- values -/
inductive T where
  | non | bl (b : Bool) | int (i : Int) | str (s : Str)
  | tup (xs : List T) | lst (xs : List T) | scr (xs : List T) | dic (kvs : List (T × T)) | fn (i : Nat)
  deriving Inhabited

mutual
def T.toD : T → PyData
  | .non => .none
  | .bl b => .bool b
  | .int i => .int i
  | .str s => .str s
  | .tup xs => .tuple (toDs xs)
  | .lst xs => .list (toDs xs)
  | .scr _ => .none
  | .dic _ => .none
  | .fn _ => .none
def toDs : List T → List PyData
  | [] => []
  | x :: xs => x.toD :: toDs xs
end
/-! plain data, of a nesting of at most n -/
mutual
def T.dat (n : Nat) : T → Bool
  | .non | .bl _ | .int _ => true
  | .str s => PyData.strOk s
  | .tup xs | .lst xs => decide (0 < n) && datAll (n - 1) xs
  | .dic _ | .fn _ | .scr _ => false
def datAll (n : Nat) : List T → Bool
  | [] => true
  | x :: xs => x.dat n && datAll n xs
end
def T.eqv (a b : T) : Bool := PyData.eqv a.toD b.toD

def isRef : T → Bool
  | .lst _ => true
  | .dic _ => true
  | _ => false
inductive Sl where
  | un | sh (t : T) | ow (t : T) | io (t : T)
  deriving Inhabited
abbrev Env := List Sl
inductive Res (α : Type) where
  | ok (a : α) (env : Env)
  | ex (c : Nat) (a : T) (env : Env)
  | bad
abbrev M (α : Type) := Env → Res α
namespace M
@[inline] def pure {α : Type} (a : α) : M α := fun env => .ok a env
@[inline] def bind {α β : Type} (m : M α) (f : α → M β) : M β := fun env => match m env with
  | .ok a env' => f a env'
  | .ex c a env' => .ex c a env'
  | .bad => .bad
instance : Monad M where
  pure := M.pure
  bind := M.bind
end M
def fail {α : Type} : M α := fun _ => .bad
def raise {α : Type} (c : Nat) (a : T) : M α := fun env => .ex c a env
def lift {α : Type} : Option α → M α
  | some a => M.pure a
  | none => fail
def getS (i : Nat) : M Sl := fun env => .ok (env.getD i .un) env
def setS (i : Nat) (s : Sl) : M Unit := fun env => .ok () (env.set i s)
/-- a name read: who holds it now is not known any more -/
def rd (i : Nat) : M (T × Bool) := fun env => match env.getD i .un with
  | .sh t => .ok (t, false) env
  | .ow t => .ok (t, false) (env.set i (.sh t))
  | _ => .bad
/-- a name looked at -/
def peek (i : Nat) : M T := fun env => match env.getD i .un with
  | .sh t => .ok t env
  | .ow t => .ok t env
  | .io t => .ok t env
  | .un => .bad
/-- a list of one's own -/
def mine (i : Nat) : M T := fun env => match env.getD i .un with
  | .ow t => .ok t env
  | .io t => .ok t env
  | _ => .bad
/-- .. changed -/
def chg (i : Nat) (t : T) : M Unit := fun env => match env.getD i .un with
  | .ow _ => .ok () (env.set i (.ow t))
  | .io _ => .ok () (env.set i (.io t))
  | _ => .bad
/-- a name bound -/
def bnd (i : Nat) (t : T) (fr : Bool) : M Unit := fun env => match env.getD i .un with
  | .io _ => .bad
  | _ => .ok () (env.set i (if fr then .ow t else .sh t))

inductive Bin where
  | add | sub | mul | fdiv | mod | pow | shl | shr | band | bor
  deriving DecidableEq
inductive Cmp where
  | eq | ne | lt | le | gt | ge | is | isnt | isin | notin
  deriving DecidableEq
/-- built-in functions -/
inductive Bif where
  | len | tuple | list | sorted | sum | max | min | abs | int | all | any | divmod | gcd | set | str | max2 | min2
  deriving DecidableEq
/-- built-in types, for isinstance -/
inductive Ty where
  | int | bool | str | tuple | list | dict
  deriving DecidableEq

inductive Opd where
  | val (t : T) | slot (i : Nat) | own (t : T)
mutual
inductive Ex where
  | var (i : Nat) | k (t : T) | glb (x : Nat)
  | bin (o : Bin) (a b : Ex) | neg (a : Ex) | not (a : Ex) | and (a b : Ex) | or (a b : Ex)
  | cmp (o : Cmp) (a b : Ex) | chn (o o' : Cmp) (a b c : Ex)
  | ite (c a b : Ex)
  | tup (es : Exs) | lst (es : Exs)
  | idx (a b : Ex) | slc (a : Ex) (lo hi : Exo)
  | call (f : Nat) (es : Exs) | callk (f : Nat) (es ks : Exs) (perm : List Nat)
  | bif (b : Bif) (es : Exs) | isi (a : Ex) (t : List Ty)
  | lrng (tp : Bool) (r : It)
  | comp (elt : Ex) (tg : Tg) (it : It) (ifs : Exs) (own : List Nat)
  | comp2 (elt : Ex) (tg : Tg) (it : It) (ifs : Exs) (tg1 : Tg) (it1 : It) (ifs1 : Exs) (own own1 : List Nat)
  | app (i : Nat) (e : Ex) | ext (i : Nat) (e : Ex) | pop (i : Nat) (e : Exo) | ins (i : Nat) (a b : Ex)
  | ixof (a b : Ex)
  | stp (a : Ex) (k : Int) | lset (a : Ex) | callv (i : Nat) (fs : List Nat) (es : Exs)
inductive Exs where
  | nil | cons (e : Ex) (es : Exs)
inductive Exo where
  | none | some (e : Ex)
inductive It where
  | ex (e : Ex) | r1 (a : Ex) | r2 (a b : Ex) | r3 (a b c : Ex) | enum (a : Ex) | zip (a b : Ex)
inductive Tg where
  | nm (i : Nat) | tp (ts : Tgs) | sub (i : Nat) (e : Ex)
inductive Tgs where
  | nil | cons (t : Tg) (ts : Tgs)
end
mutual
inductive St where
  | asg (tg : Tg) (e : Ex) | asg2 (ts : Tgs) (es : Exs) | exp (e : Ex)
  | ite (c : Ex) (a b : Sts) | for (tg : Tg) (it : It) (b : Sts) | whl (c : Ex) (b : Sts)
  | ret (e : Exo) | brk | pass | rse (c : Nat) (e : Exs)
inductive Sts where
  | nil | cons (s : St) (ss : Sts)
end
def Exs.len : Exs → Nat
  | .nil => 0
  | .cons _ es => es.len + 1

/-! ### operators by values -/
def LIM : Nat := 1000000
def mulOk (i j : Int) : Bool := decide (i.natAbs < 2 ^ 64) || decide (j.natAbs < 2 ^ 64) || decide (i.natAbs < 2 ^ 400000 ∧ j.natAbs < 2 ^ 400000)
/-- by int -/
def onI (g : Int → Int → Option T) : T → T → Option (T × Bool)
  | .int i, .int j => (g i j).map fun z => (z, true)
  | _, _ => none
/-- two texts -/
def addS : T → T → Option (T × Bool)
  | .str x, .str y => if x.length + y.length ≤ LIM then some (.str (x ++ y), true) else none
  | _, _ => none
def addT : T → T → Option (T × Bool)
  | .tup xs, .tup ys => if xs.length + ys.length ≤ LIM then some (.tup (xs ++ ys), true) else none
  | _, _ => none
def addL : T → T → Option (T × Bool)
  | .lst xs, .lst ys => if xs.length + ys.length ≤ LIM then some (.lst (xs ++ ys), true) else none
  | _, _ => none
def mulL : T → T → Option (T × Bool)
  | .lst xs, .int k => if xs.length * k.toNat ≤ LIM ∧ k < LIM ∧ -LIM < k then some (.lst (List.replicate k.toNat xs).flatten, true) else none
  | _, _ => none
def mulT : T → T → Option (T × Bool)
  | .tup xs, .int k => if xs ≠ [] ∧ 2 ≤ k ∧ k ≤ 1000 ∧ xs.length ≤ 1000 then some (.tup (List.replicate k.toNat xs).flatten, true) else none
  | _, _ => none
/-- once, or not at all -/
def mulT1 : T → T → Option (T × Bool)
  | .tup xs, .int k => if xs ≠ [] ∧ k = 1 then some (.tup xs, true) else if xs ≠ [] ∧ -1000 ≤ k ∧ k ≤ 0 then some (.tup [], true) else none
  | _, _ => none
/-- the operators, one by one -/
def binF (o : Bin) : T → T → Option (T × Bool) := match o with
  | .add => fun t u => (onI (fun i j => some (.int (i + j))) t u).or ((addS t u).or ((addT t u).or (addL t u)))
  | .sub => onI fun i j => some (.int (i - j))
  | .mul => fun t u => (onI (fun i j => if mulOk i j then some (.int (i * j)) else none) t u).or ((mulL t u).or ((mulT t u).or (mulT1 t u)))
  | .fdiv => onI fun i j => if 0 < j ∧ j < 2 ^ 8000 then some (.int (i / j)) else none
  | .mod => onI fun i j => if 0 < j then some (.int (i % j)) else none
  | .pow => onI fun i j => if 0 ≤ j ∧ j ≤ 1000 ∧ i.natAbs < 2 ^ 64 then some (.int (i ^ j.toNat)) else none
  | _ => fun _ _ => none
/-- ints alone -/
def intsOf : List T → Option (List Int)
  | [] => some []
  | .int i :: xs => (intsOf xs).map (i :: ·)
  | _ :: _ => none
def onIB (g : Int → Int → Bool) : T → T → Option Bool
  | .int i, .int j => some (g i j)
  | _, _ => none
def ltTup : T → T → Option Bool
  | .tup xs, .tup ys => match intsOf xs, intsOf ys with
    | some ns, some ms => some (HT.lexLt ns ms)
    | _, _ => none
  | _, _ => none
def leTup : T → T → Option Bool
  | .tup xs, .tup ys => match intsOf xs, intsOf ys with
    | some ns, some ms => some (!HT.lexLt ms ns)
    | _, _ => none
  | _, _ => none
def leT (a b : T) : Option Bool := (onIB (fun i j => decide (i ≤ j)) a b).or (leTup a b)
def ltT (a b : T) : Option Bool := (onIB (fun i j => decide (i < j)) a b).or (ltTup a b)
def eqT (a b : T) : Option Bool := if a.dat 60 && b.dat 60 then some (a.eqv b) else none
def inL (x : T) (ys : List T) : Option Bool := if x.dat 60 && datAll 60 ys then some (ys.any fun y => y.eqv x) else none
def inTup (x : T) : T → Option Bool
  | .tup ys => inL x ys
  | _ => none
def inLst (x : T) : T → Option Bool
  | .lst ys => inL x ys
  | _ => none
def inT (x y : T) : Option Bool := (inTup x y).or (inLst x y)
def isN : T → T → Option Bool
  | a, .non => match a with
    | .non => some true
    | _ => some false
  | _, _ => none
def isB : T → T → Option Bool
  | .bl a, .bl b => some (decide (a = b))
  | _, _ => none
def isT (a b : T) : Option Bool := (isN a b).or (isB a b)
def cmpF (o : Cmp) : T → T → Option Bool := match o with
  | .eq => eqT
  | .ne => fun a b => (eqT a b).map (!·)
  | .lt => ltT
  | .gt => onIB fun i j => decide (j < i)
  | .le => leT
  | .ge => onIB fun i j => decide (j ≤ i)
  | .isin => inT
  | .notin => fun a b => (inT a b).map (!·)
  | .is => isT
  | .isnt => fun a b => (isT a b).map (!·)
def idxL (xs : List T) (i : Int) : Option T := L2.atI xs i
def idxT : T → T → Option T
  | .tup xs, .int i => idxL xs i
  | .lst xs, .int i => idxL xs i
  | .scr xs, .int i => idxL xs i
  | _, _ => none
def cutL (xs : List T) (lo hi : Option Int) : List T := (xs.drop (HT.sIx xs.length 0 lo)).take (HT.sIx xs.length xs.length hi - HT.sIx xs.length 0 lo)
def slcT : T → Option Int → Option Int → Option T
  | .tup xs, lo, hi => some (.tup (cutL xs lo hi))
  | .lst xs, lo, hi => some (.lst (cutL xs lo hi))
  | .scr xs, lo, hi => some (.lst (cutL xs lo hi))
  | _, _, _ => none
/-- every k-th, all through -/
def stpF (k : Int) : T → Option (T × Bool)
  | .tup xs => if k = -1 ∨ k = 2 then some (.tup (HT.stpPick k xs), false) else none
  | .lst xs => if k = -1 then some (.lst xs.reverse, true) else none
  | _ => none
/-- ints, each once -/
def ddupI (ns : List Int) : List Int := ns.foldl (fun acc n => if acc.any (· == n) then acc else acc ++ [n]) []
/-- how many unlike ints -/
def lsetF : T → Option (T × Bool)
  | .lst xs => (intsOf xs).bind fun ns => if ns.length ≤ 4000 then some (.int (ddupI ns).length, false) else none
  | _ => none
def fnOf : T → Option Nat
  | .fn f => some f
  | _ => none
def truT : T → Option Bool
  | .bl b => some b
  | .int i => some (i != 0)
  | .non => some false
  | .str s => if s.length ≤ LIM then some ((s.length : Int) != 0) else none
  | .tup xs => some (!xs.isEmpty)
  | .lst xs => some (!xs.isEmpty)
  | .scr xs => some (!xs.isEmpty)
  | .dic _ => none
  | .fn _ => none
def asInt : T → Option Int
  | .int i => some i
  | _ => none
def asBl : T → Option Bool
  | .bl b => some b
  | _ => none
def lstOf : T → Option (List T)
  | .lst xs => some xs
  | _ => none
def seqOf : T → Option (List T)
  | .tup xs => some xs
  | .lst xs => some xs
  | .scr xs => some xs
  | _ => none
def sumL : List T → Option Int
  | [] => some 0
  | .int i :: xs => (sumL xs).map (i + ·)
  | _ :: _ => none
/-- put in order -/
def insB {α : Type} (lt : α → α → Bool) (x : α) : List α → List α
  | [] => [x]
  | y :: ys => if lt y x then y :: insB lt x ys else x :: y :: ys
def sortB {α : Type} (lt : α → α → Bool) : List α → List α
  | [] => []
  | x :: xs => insB lt x (sortB lt xs)
def sortI (ns : List Int) : List Int := sortB (fun i j => decide (i < j)) ns
/-- pairs of ints -/
def pairsOf : List T → Option (List (Int × Int))
  | [] => some []
  | .tup [.int i, .int j] :: xs => (pairsOf xs).map ((i, j) :: ·)
  | _ :: _ => none
def pairT (p : Int × Int) : T := .tup [.int p.1, .int p.2]
def lexP (p q : Int × Int) : Bool := if p.1 = q.1 then decide (p.2 < q.2) else decide (p.1 < q.1)
def sortP (ps : List (Int × Int)) : List (Int × Int) := sortB lexP ps
def on1 (f : T → Option (T × Bool)) : List T → Option (T × Bool)
  | [x] => f x
  | _ => none
def lenF (x : T) : Option (T × Bool) := (seqOf x).map fun xs => (.int xs.length, false)
def tupleF (x : T) : Option (T × Bool) := (seqOf x).map fun xs => (.tup xs, false)
def listF (x : T) : Option (T × Bool) := (seqOf x).map fun xs => (.lst xs, true)
def sortIF (x : T) : Option (T × Bool) := match x with
  | .lst xs => (intsOf xs).map fun ns => (.lst ((sortI ns).map T.int), true)
  | _ => none
def sortPF (x : T) : Option (T × Bool) := match x with
  | .lst xs => (pairsOf xs).map fun ps => (.lst ((sortP ps).map pairT), true)
  | _ => none
/-- tuples of ints -/
def tupsOf : List T → Option (List (List Int))
  | [] => some []
  | .tup xs :: r => (intsOf xs).bind fun ns => (tupsOf r).map (ns :: ·)
  | _ :: _ => none
def intsT (ns : List Int) : T := .tup (ns.map T.int)
def headNil : List (List Int) → Bool
  | [] :: _ => true
  | _ => false
def sortTF (x : T) : Option (T × Bool) := match x with
  | .lst xs => (tupsOf xs).bind fun l => if l.all (fun ns => !ns.isEmpty) || headNil l then some (.lst ((sortB HT.lexLt l).map intsT), true) else none
  | .tup xs => (tupsOf xs).bind fun l => if l.all (fun ns => !ns.isEmpty) || headNil l then some (.lst ((sortB HT.lexLt l).map intsT), true) else none
  | _ => none
def sumF (x : T) : Option (T × Bool) := (seqOf x).bind fun xs => (intsOf xs).map fun ns => (.int ns.sum, false)
def maxI : Int → List Int → Int
  | m, [] => m
  | m, x :: xs => maxI (if m < x then x else m) xs
def minI : Int → List Int → Int
  | m, [] => m
  | m, x :: xs => minI (if x < m then x else m) xs
def maxF (x : T) : Option (T × Bool) := match x with
  | .lst xs => match intsOf xs with
    | some (n :: ns) => some (.int (maxI n ns), false)
    | _ => none
  | .tup xs => match intsOf xs with
    | some (n :: ns) => some (.int (maxI n ns), false)
    | _ => none
  | _ => none
def minF (x : T) : Option (T × Bool) := match x with
  | .lst xs => match intsOf xs with
    | some (n :: ns) => some (.int (minI n ns), false)
    | _ => none
  | .tup xs => match intsOf xs with
    | some (n :: ns) => some (.int (minI n ns), false)
    | _ => none
  | _ => none
def absF (x : T) : Option (T × Bool) := match x with
  | .int i => some (.int (if i < 0 then -i else i), false)
  | _ => none
def intF (x : T) : Option (T × Bool) := match x with
  | .int i => some (.int i, false)
  | .bl b => some (.int (if b then 1 else 0), false)
  | _ => none
def blsOf : List T → Option (List Bool)
  | [] => some []
  | .bl b :: xs => (blsOf xs).map (b :: ·)
  | _ :: _ => none
def allF (x : T) : Option (T × Bool) := match x with
  | .lst xs => (blsOf xs).map fun bs => (.bl (bs.all id), false)
  | _ => none
def anyF (x : T) : Option (T × Bool) := match x with
  | .lst xs => (blsOf xs).map fun bs => (.bl (bs.any id), false)
  | _ => none
def max2F : List T → Option (T × Bool)
  | [.int i, .int j] => some (.int (if j > i then j else i), false)
  | _ => none
def min2F : List T → Option (T × Bool)
  | [.int i, .int j] => some (.int (if j < i then j else i), false)
  | _ => none
def divmodF : List T → Option (T × Bool)
  | [.int i, .int j] => if 0 < j ∧ j < 2 ^ 20 then some (.tup [.int (i / j), .int (i % j)], true) else none
  | _ => none
/-- built-in functions: the value, and whether it is a new object -/
def bifF (b : Bif) : List T → Option (T × Bool) := match b with
  | .len => on1 lenF
  | .tuple => on1 tupleF
  | .list => on1 listF
  | .sorted => fun ts => (on1 sortIF ts).or ((on1 sortPF ts).or (on1 sortTF ts))
  | .sum => on1 sumF
  | .max => on1 maxF
  | .min => on1 minF
  | .max2 => max2F
  | .min2 => min2F
  | .abs => on1 absF
  | .int => on1 intF
  | .all => on1 allF
  | .any => on1 anyF
  | .divmod => divmodF
  | _ => fun _ => none
def isTy : T → Ty → Bool
  | .bl _, .int => true
  | .bl _, .bool => true
  | .int _, .int => true
  | .str _, .str => true
  | .tup _, .tuple => true
  | .lst _, .list => true
  | .dic _, .dict => true
  | _, _ => false

def isiF (ts : List Ty) (x : T) : Option (T × Bool) := match x with
  | .fn _ => none
  | .dic _ => none
  | .scr _ => none
  | x => some (.bl (ts.any fun y => isTy x y), false)

/-! ### the evaluator -/
inductive FRes where
  | ok (r : T) (fr : Bool) (out : Option T)
  | ex (c : Nat) (a : T) (out : Option T)
  | bad
structure Ctx where
  io : Nat → Option Nat        -- the place of the one argument that a def may change
  call : Nat → List T → FRes
  glb : Nat → Option T
  wh : Nat                      -- how many turns of a while at most

def res : Opd → M T
  | .val t => M.pure t
  | .own t => M.pure t
  | .slot i => peek i
def resAll : List Opd → M (List T)
  | [] => M.pure []
  | o :: os => do
    let t ← res o
    let ts ← resAll os
    M.pure (t :: ts)
/-- the argument that may be changed is one's own -/
def mineAt : Option Nat → List Opd → M Unit
  | none, _ => M.pure ()
  | some j, os => match os[j]? with
    | some (.slot i) => do
      let _ ← mine i
      M.pure ()
    | some (.own _) => M.pure ()
    | _ => fail
/-- behind a call: the argument that was changed -/
def putBack : Option Nat → List Opd → Option T → M Unit
  | none, _, none => M.pure ()
  | some j, os, some t => match os[j]? with
    | some (.slot i) => chg i t
    | some (.own _) => M.pure ()
    | _ => fail
  | _, _, _ => fail
def doCall (C : Ctx) (f : Nat) (os : List Opd) : M (T × Bool) := do
  mineAt (C.io f) os
  let ts ← resAll os
  match C.call f ts with
  | .ok r fr out => do
    putBack (C.io f) os out
    M.pure (r, fr)
  | .ex c a out => do
    putBack (C.io f) os out
    raise c a
  | .bad => fail
def wipe (env : Env) : List Nat → Env
  | [] => env
  | v :: vs => (wipe env vs).set v .un
def unwipe (old env : Env) : List Nat → Env
  | [] => env
  | v :: vs => (unwipe old env vs).set v (old.getD v .un)
/-- a block of its own names -/
def noIo (env : Env) (own : List Nat) : Bool := own.all fun i => match env.getD i .un with
  | .io _ => false
  | _ => true
def block {α : Type} (own : List Nat) (m : M α) : M α := fun env => match noIo env own with
  | true => match m (wipe env own) with
    | .ok a env' => .ok a (unwipe env env' own)
    | _ => .bad
  | false => .bad
/-- a turn: what it binds is forgotten behind it -/
def turn {α : Type} (own : List Nat) (m : M α) : M α := fun env => match m env with
  | .ok a env' => .ok a (wipe env' own)
  | .ex c a env' => .ex c a env'
  | .bad => .bad
def wipeM (own : List Nat) : M Unit := fun env => .ok () (wipe env own)
def each {α : Type} (step : T → M (List α)) : List T → M (List α)
  | [] => M.pure []
  | x :: xs => do
    let a ← step x
    let r ← each step xs
    M.pure (a ++ r)
def rng (a b : Int) : List T := (List.range (b - a).toNat).map fun (i : Nat) => T.int (a + i)
def rng3 (a b c : Int) : Option (List T) := if c = -1 ∨ c = 2 then some ((List.range (PySem.Builtin.Range.rangeSize a b c).toNat).map fun (i : Nat) => T.int (a + (i : Int) * c)) else none
def capped (xs : List T) : Option (List T) := if xs.length ≤ LIM then some xs else none
def rngT (a b : Int) : Option (List T) := if -LIM ≤ a ∧ a ≤ LIM ∧ -LIM ≤ b ∧ b ≤ LIM then some (rng a b) else none
def enumL (xs : List T) : List T := xs.zipIdx.map fun p => T.tup [.int p.2, p.1]
def zipL (xs ys : List T) : List T := (xs.zip ys).map fun p => T.tup [p.1, p.2]
def enuF : T → Option (List T)
  | .lst xs => some xs
  | .tup xs => some xs
  | _ => none
def zipF (x y : T) : Option (List T) := match x, y with
  | .lst xs, .lst ys => some (zipL xs ys)
  | .tup xs, .tup ys => some (zipL xs ys)
  | .lst xs, .tup ys => some (zipL xs ys)
  | _, _ => none
def need (b : Bool) : M Unit := if b then M.pure () else fail
/-- a test of a plain value -/
def gen (m : M (T × Bool)) : M (T × Bool) × M Bool := (m, do
  let (x, _) ← m
  lift (truT x))
/-- an operand: a name is looked at when it is needed -/
def opdM : Ex → M (T × Bool) → M Opd
  | .var i, _ => do
    let _ ← peek i
    M.pure (.slot i)
  | _, m => do
    let (t, _) ← m
    M.pure (.val t)
/-- an argument that the callee may change: a name of one's own, or a new list -/
def argM : Ex → M (T × Bool) → M Opd
  | .var i, _ => do
    let _ ← peek i
    M.pure (.slot i)
  | _, m => do
    let (t, fr) ← m
    if fr && isRef t then M.pure (.own t) else fail
mutual
/-- the value, and the answer as a test -/
def evB (C : Ctx) : Ex → M (T × Bool) × M Bool
  | .var i => (rd i, do
    let x ← peek i
    lift (truT x))
  | .k t => gen (M.pure (t, false))
  | .glb x => gen (do
    let t ← lift (C.glb x)
    M.pure (t, false))
  | .bin o a b => gen (do
    let x ← opdM a (evB C a).1
    let y ← opdM b (evB C b).1
    let x ← res x
    let y ← res y
    lift (binF o x y))
  | .neg a => gen (do
    let x ← opdM a (evB C a).1
    let x ← res x
    let i ← lift (asInt x)
    M.pure (.int (-i), false))
  | .not a => (do
    let x ← opdM a (evB C a).1
    let x ← res x
    let b ← lift (truT x)
    M.pure (.bl (!b), false), do
    let b ← (evB C a).2
    M.pure (!b))
  | .and a b => (do
    let (x, _) ← (evB C a).1
    let c ← lift (truT x)
    if c then (evB C b).1 else M.pure (x, false), do
    let c ← (evB C a).2
    if c then (evB C b).2 else M.pure false)
  | .or a b => (do
    let (x, _) ← (evB C a).1
    let c ← lift (truT x)
    if c then M.pure (x, false) else (evB C b).1, do
    let c ← (evB C a).2
    if c then M.pure true else (evB C b).2)
  | .cmp o a b => gen (do
    let x ← opdM a (evB C a).1
    let y ← opdM b (evB C b).1
    let x ← res x
    let y ← res y
    lift ((cmpF o x y).map fun z => (.bl z, false)))
  | .chn o o' a b c => gen (do
    let x ← opdM a (evB C a).1
    let y ← opdM b (evB C b).1
    let x ← res x
    let y1 ← res y
    let z ← lift (cmpF o x y1)
    if z then do
      let w ← opdM c (evB C c).1
      let y2 ← res y
      let w ← res w
      let z ← lift (cmpF o' y2 w)
      M.pure (.bl z, false)
    else M.pure (.bl false, false))
  | .ite c a b => (do
    let t ← (evB C c).2
    if t then (evB C a).1 else (evB C b).1, do
    let t ← (evB C c).2
    if t then (evB C a).2 else (evB C b).2)
  | .tup es => gen (do
    let ts ← evEs C es
    M.pure (.tup ts, false))
  | .lst es => gen (do
    let ts ← evEs C es
    M.pure (.lst ts, true))
  | .idx a b => gen (do
    let x ← opdM a (evB C a).1
    let y ← opdM b (evB C b).1
    let x ← res x
    let y ← res y
    lift ((idxT x y).map fun z => (z, false)))
  | .slc a lo hi => gen (do
    let x ← opdM a (evB C a).1
    let l ← evI C lo
    let h ← evI C hi
    let x ← res x
    let z ← lift (slcT x l h)
    M.pure (z, true))
  | .call f es => gen (do
    let os ← evA C (C.io f) 0 es
    doCall C f os)
  | .callk f es ks perm => gen (do
    let os ← evA C none 0 es
    let qs ← evA C none 0 ks
    if (C.io f).isSome then fail else
    doCall C f (perm.filterMap fun i => (os ++ qs)[i]?))
  | .bif b es => gen (do
    let os ← evOs C es
    let ts ← resAll os
    lift (bifF b ts))
  | .isi a t => gen (do
    let x ← opdM a (evB C a).1
    let x ← res x
    lift (isiF t x))
  | .lrng tp r => gen (do
    let xs ← evIt C r
    M.pure (if tp then .tup xs else .lst xs, !tp))
  | .comp elt tg it ifs own => gen (do
    let xs ← evIt C it
    let ys ← block own (each (fun x => turn own (do
      evG C tg x false
      let b ← evTs C ifs
      if b then do
        let (y, _) ← (evB C elt).1
        M.pure [y]
      else M.pure [])) xs)
    let _ ← lift (capped ys)
    M.pure (.lst ys, true))
  | .comp2 elt tg it ifs tg1 it1 ifs1 own own1 => gen (do
    let xs ← evIt C it
    let ys ← block own (each (fun x => turn own (do
      evG C tg x false
      let b ← evTs C ifs
      if b then do
        let zs ← evIt C it1
        wipeM own1
        each (fun z => turn own1 (do
          evG C tg1 z false
          let b ← evTs C ifs1
          if b then do
            let (y, _) ← (evB C elt).1
            M.pure [y]
          else M.pure [])) zs
      else M.pure [])) xs)
    let _ ← lift (capped ys)
    M.pure (.lst ys, true))
  | .app i e => gen (do
    let _ ← mine i
    let (x, _) ← (evB C e).1
    match ← mine i with
    | .lst xs => do
      need (decide (xs.length < LIM))
      chg i (.lst (xs ++ [x]))
      M.pure (.non, false)
    | _ => fail)
  | .ext i e => gen (do
    let _ ← mine i
    let (x, _) ← (evB C e).1
    let ys ← lift (lstOf x)
    match ← mine i with
    | .lst xs => do
      need (decide (xs.length + ys.length ≤ LIM))
      chg i (.lst (xs ++ ys))
      M.pure (.non, false)
    | _ => fail)
  | .pop i e => gen (do
    let _ ← mine i
    let j ← evI C e
    match ← mine i with
    | .lst xs => do
      let k ← lift (L2.ixN xs.length (j.getD (-1)))
      let y ← lift xs[k]?
      chg i (.lst (xs.eraseIdx k))
      M.pure (y, false)
    | _ => fail)
  | .ins i a b => gen (do
    let _ ← mine i
    let (p, _) ← (evB C a).1
    let p ← lift (asInt p)
    let (x, _) ← (evB C b).1
    match ← mine i with
    | .lst xs => do
      need (decide (xs.length < LIM ∧ 0 ≤ p ∧ p < LIM))
      chg i (.lst (xs.take p.toNat ++ [x] ++ xs.drop p.toNat))
      M.pure (.non, false)
    | _ => fail)
  | .ixof a b => gen (do
    let x ← opdM a (evB C a).1
    let x0 ← res x
    let _ ← lift (lstOf x0)
    let y ← opdM b (evB C b).1
    let x ← res x
    let y ← res y
    let xs ← lift (lstOf x)
    need (y.dat 60 && datAll 60 xs)
    let k ← lift (xs.findIdx? fun z => z.eqv y)
    M.pure (.int k, false))
  | .stp a k => gen (do
    let x ← opdM a (evB C a).1
    let x ← res x
    lift (stpF k x))
  | .lset a => gen (do
    let x ← opdM a (evB C a).1
    let x ← res x
    lift (lsetF x))
  | .callv i fs es => gen (do
    let z ← peek i
    let f ← lift (fnOf z)
    if (C.io f).isSome || !fs.contains f then fail else do
      let os ← evA C none 0 es
      doCall C f os)
def evEs (C : Ctx) : Exs → M (List T)
  | .nil => M.pure []
  | .cons e es => do
    let (t, _) ← (evB C e).1
    let ts ← evEs C es
    M.pure (t :: ts)
def evOs (C : Ctx) : Exs → M (List Opd)
  | .nil => M.pure []
  | .cons e es => do
    let t ← opdM e (evB C e).1
    let ts ← evOs C es
    M.pure (t :: ts)
/-- a def's arguments: those that it may change stay names -/
def evA (C : Ctx) (io : Option Nat) (j : Nat) : Exs → M (List Opd)
  | .nil => M.pure []
  | .cons e es => do
    let t ← (if io = some j then argM e (evB C e).1 else do
      let (t, _) ← (evB C e).1
      M.pure (.val t))
    let ts ← evA C io (j + 1) es
    M.pure (t :: ts)
def evI (C : Ctx) : Exo → M (Option Int)
  | .none => M.pure none
  | .some e => do
    let x ← opdM e (evB C e).1
    let x ← res x
    let i ← lift (asInt x)
    M.pure (some i)
def evTs (C : Ctx) : Exs → M Bool
  | .nil => M.pure true
  | .cons e es => do
    let c ← (evB C e).2
    if c then evTs C es else M.pure false
/-- what is walked -/
def evIt (C : Ctx) : It → M (List T)
  | .ex e => do
    let (x, _) ← (evB C e).1
    lift (seqOf x)
  | .r1 a => do
    let x ← opdM a (evB C a).1
    let x ← res x
    let i ← lift (asInt x)
    lift (rngT 0 i)
  | .r2 a b => do
    let x ← opdM a (evB C a).1
    let y ← opdM b (evB C b).1
    let x ← res x
    let y ← res y
    let i ← lift (asInt x)
    let j ← lift (asInt y)
    lift (rngT i j)
  | .r3 a b c => do
    let x ← opdM a (evB C a).1
    let y ← opdM b (evB C b).1
    let z ← opdM c (evB C c).1
    let x ← res x
    let y ← res y
    let z ← res z
    let i ← lift (asInt x)
    let j ← lift (asInt y)
    let k ← lift (asInt z)
    need (decide (-LIM ≤ i ∧ i ≤ LIM ∧ -LIM ≤ j ∧ j ≤ LIM ∧ -LIM ≤ k ∧ k ≤ LIM))
    lift (rng3 i j k)
  | .enum a => do
    let (x, _) ← (evB C a).1
    let xs ← lift (enuF x)
    M.pure (enumL xs)
  | .zip a b => do
    let (x, _) ← (evB C a).1
    let (y, _) ← (evB C b).1
    lift (zipF x y)
/-- a target bound -/
def evG (C : Ctx) : Tg → T → Bool → M Unit
  | .nm i, t, fr => bnd i t fr
  | .tp ts, t, _ => match t with
    | .tup xs => evGs C ts xs
    | .lst xs => evGs C ts xs
    | _ => fail
  | .sub i e, t, _ => do
    let _ ← mine i
    let x ← opdM e (evB C e).1
    let x ← res x
    let j ← lift (asInt x)
    match ← mine i with
    | .lst xs => do
      let k ← lift (L2.ixN xs.length j)
      chg i (.lst (xs.set k t))
    | _ => fail
def evGs (C : Ctx) : Tgs → List T → M Unit
  | .nil, [] => M.pure ()
  | .cons t ts, x :: xs => do
    evG C t x false
    evGs C ts xs
  | _, _ => fail
end
def evE (C : Ctx) (e : Ex) : M (T × Bool) := (evB C e).1
def evT (C : Ctx) (e : Ex) : M Bool := (evB C e).2
def evO (C : Ctx) (e : Ex) : M Opd := opdM e (evE C e)
def evW (C : Ctx) (e : Ex) : M Opd := argM e (evE C e)
/-- several values at once, each its own -/
def evGp (C : Ctx) : Tgs → List (T × Bool) → M Unit
  | .nil, [] => M.pure ()
  | .cons t ts, (x, fr) :: xs => do
    evG C t x fr
    evGp C ts xs
  | _, _ => fail
def evEp (C : Ctx) : Exs → M (List (T × Bool))
  | .nil => M.pure []
  | .cons e es => do
    let t ← evE C e
    let ts ← evEp C es
    M.pure (t :: ts)
inductive Fl where
  | nx | rt (t : T) (fr : Bool) | bk
/-- a def's answer: a list of its own goes out as new -/
def evR (C : Ctx) : Exo → M (T × Bool)
  | .none => M.pure (.non, false)
  | .some (.var i) => fun env => match env.getD i .un with
    | .sh t => .ok (t, false) env
    | .ow t => .ok (t, true) env
    | _ => .bad
  | .some e => evE C e
def loopF (step : T → M Fl) : List T → M Fl
  | [] => M.pure .nx
  | x :: xs => do
    match ← step x with
    | .nx => loopF step xs
    | .bk => M.pure .nx
    | .rt t fr => M.pure (.rt t fr)
def loopW (c : M Bool) (b : M Fl) : Nat → M Fl
  | 0 => fail
  | n + 1 => do
    if ← c then
      match ← b with
      | .nx => loopW c b n
      | .bk => M.pure .nx
      | .rt t fr => M.pure (.rt t fr)
    else M.pure .nx
mutual
def evS (C : Ctx) : St → M Fl
  | .asg tg e => do
    let (t, fr) ← evE C e
    evG C tg t (fr && isRef t)
    M.pure .nx
  | .asg2 tgs es => do
    let ts ← evEp C es
    evGp C tgs (ts.map fun p => (p.1, p.2 && isRef p.1))
    M.pure .nx
  | .exp e => do
    let _ ← evE C e
    M.pure .nx
  | .ite c a b => do
    let t ← evT C c
    if t then evSs C a else evSs C b
  | .for tg it b => do
    let xs ← evIt C it
    loopF (fun x => do evG C tg x false; evSs C b) xs
  | .whl c b => loopW (evT C c) (evSs C b) C.wh
  | .ret e => do
    let (t, fr) ← evR C e
    M.pure (.rt t (fr && isRef t))
  | .brk => M.pure .bk
  | .pass => M.pure .nx
  | .rse c e => do
    let ts ← evEs C e
    raise c (ts.headD .non)
def evSs (C : Ctx) : Sts → M Fl
  | .nil => M.pure .nx
  | .cons s ss => do
    match ← evS C s with
    | .nx => evSs C ss
    | .bk => M.pure .bk
    | .rt t fr => M.pure (.rt t fr)
end

structure FnD where
  np : Nat
  ns : Nat
  io : Option Nat
  body : Sts
def start (d : FnD) (ts : List T) : Env := (ts.zipIdx.map fun p => if d.io = some p.2 then Sl.io p.1 else Sl.sh p.1) ++ List.replicate (d.ns - d.np) .un
def outOf (env : Env) : Option Nat → Option (Option T)
  | none => some none
  | some j => match env.getD j .un with
    | .io t => some (some t)
    | _ => none
def evFn (C : Ctx) (d : FnD) (ts : List T) : FRes :=
  if ts.length = d.np then
    match evSs C d.body (start d ts) with
    | .ok fl env => match outOf env d.io with
      | none => .bad
      | some out => match fl with
        | .nx => .ok .non false out
        | .rt t fr => .ok t fr out
        | .bk => .bad
    | .ex c a env => match outOf env d.io with
      | none => .bad
      | some out => .ex c a out
    | .bad => .bad
  else .bad
structure Prog where
  fn : Nat → Option FnD
  glb : Nat → Option T
def ioOf (P : Prog) (f : Nat) : Option Nat := match P.fn f with
  | some d => d.io
  | none => none
def run (P : Prog) (wh : Nat) : Nat → Nat → List T → FRes
  | 0, _, _ => .bad
  | n + 1, f, ts => match P.fn f with
    | some d => evFn { io := ioOf P, call := run P wh n, glb := P.glb, wh := wh } d ts
    | none => .bad
end Ev

set_option Elab.async false
set_option linter.all false
set_option maxRecDepth 100000
set_option autoImplicit false
/-! values in the abstract heap; the evaluator's states -/
namespace Ev
open PySem PySem.Spec PyProof.Rows L2
open Classical

/-- all of one heap stands in the other -/
def Hle (H H' : Hp) : Prop := ∀ a o, H a = some o → H' a = some o
theorem Hle.refl {H : Hp} : Hle H H := fun _ _ h => h
theorem Hle.trans {H H1 H2 : Hp} (h : Hle H H1) (h' : Hle H1 H2) : Hle H H2 := fun a o e => h' a o (h a o e)
noncomputable def mask (O : Addr → Prop) (H : Hp) : Hp := fun a => if O a then none else H a
theorem mask_le {O : Addr → Prop} {H : Hp} : Hle (mask O H) H := fun a o e => by
  unfold mask at e; split at e
  · cases e
  · exact e
theorem mask_some {O : Addr → Prop} {H : Hp} {a : Addr} {o : HO} : mask O H a = some o ↔ ¬ O a ∧ H a = some o := by
  unfold mask; split <;> simp_all
theorem SqL.le {K : PySem.W.Frag} {H H' : Hp} {a : Addr} {xs : List V} (e : Hle H H') (h : SqL K H a xs) : SqL K H' a xs := Same.seq e h
theorem SqT.le {K : PySem.W.Frag} {H H' : Hp} {a : Addr} {xs : List V} (e : Hle H H') (h : SqT K H a xs) : SqT K H' a xs := by
  rcases h with (h | ⟨o, h⟩) | h
  · exact .inl (.inl (e _ _ h))
  · exact .inl (.inr ⟨o, e _ _ h⟩)
  · exact .inr h

section
variable (F : Nat → Addr) (K : PySem.W.Frag)
mutual
/-- a value is laid -/
def Rp (H : Hp) : T → V → Prop
  | .non, v => v = .non
  | .bl b, v => v = .bl b
  | .int i, v => v = .int i
  | .str s, v => v = .str s
  | .tup ts, v => ∃ a vs, v = .ref a ∧ H a = some (.tup vs) ∧ vs.length ≤ sizeLine ∧ RpL H ts vs
  | .lst ts, v => ∃ a vs, v = .ref a ∧ H a = some (.lst vs) ∧ vs.length ≤ sizeLine ∧ RpL H ts vs
  | .scr ts, v => ∃ a vs, v = .ref a ∧ SqL K H a vs ∧ vs.length ≤ sizeLine ∧ RpL H ts vs
  | .dic _, _ => False
  | .fn i, v => v = .ref (F i)
def RpL (H : Hp) : List T → List V → Prop
  | [], vs => vs = []
  | t :: ts, vs => ∃ v r, vs = v :: r ∧ Rp H t v ∧ RpL H ts r
end
variable {F K}
mutual
theorem Rp.le {H H' : Hp} (e : Hle H H') : ∀ {t : T} {v : V}, Rp F K H t v → Rp F K H' t v
  | .non, _, h => by simpa only [Rp] using h
  | .bl _, _, h => by simpa only [Rp] using h
  | .int _, _, h => by simpa only [Rp] using h
  | .str _, _, h => by simpa only [Rp] using h
  | .fn _, _, h => by simpa only [Rp] using h
  | .dic _, _, h => by simp only [Rp] at h
  | .tup ts, v, h => by
    simp only [Rp] at h ⊢
    obtain ⟨a, vs, e1, e2, e3, e4⟩ := h
    exact ⟨a, vs, e1, e _ _ e2, e3, RpL.le e e4⟩
  | .lst ts, v, h => by
    simp only [Rp] at h ⊢
    obtain ⟨a, vs, e1, e2, e3, e4⟩ := h
    exact ⟨a, vs, e1, e _ _ e2, e3, RpL.le e e4⟩
  | .scr ts, v, h => by
    simp only [Rp] at h ⊢
    obtain ⟨a, vs, e1, e2, e3, e4⟩ := h
    exact ⟨a, vs, e1, SqL.le e e2, e3, RpL.le e e4⟩
theorem RpL.le {H H' : Hp} (e : Hle H H') : ∀ {ts : List T} {vs : List V}, RpL F K H ts vs → RpL F K H' ts vs
  | [], _, h => by simpa only [RpL] using h
  | t :: ts, vs, h => by
    simp only [RpL] at h ⊢
    obtain ⟨v, r, e1, e2, e3⟩ := h
    exact ⟨v, r, e1, Rp.le e e2, RpL.le e e3⟩
end
variable {H H' : Hp}
theorem RpL.len : ∀ {ts : List T} {vs : List V}, RpL F K H ts vs → ts.length = vs.length
  | [], _, h => by simp only [RpL] at h; subst h; rfl
  | t :: ts, vs, h => by
    simp only [RpL] at h
    obtain ⟨v, r, rfl, _, h⟩ := h
    simp [RpL.len h]
theorem RpL.get : ∀ {ts : List T} {vs : List V} {i : Nat} {t : T}, RpL F K H ts vs → ts[i]? = some t → ∃ v, vs[i]? = some v ∧ Rp F K H t v
  | [], _, _, _, _, e => by simp at e
  | t :: ts, vs, 0, t', h, e => by
    simp only [RpL] at h
    obtain ⟨v, r, rfl, h1, _⟩ := h
    simp at e; subst e
    exact ⟨v, rfl, h1⟩
  | t :: ts, vs, i + 1, t', h, e => by
    simp only [RpL] at h
    obtain ⟨v, r, rfl, _, h⟩ := h
    obtain ⟨w, h1, h2⟩ := RpL.get h (i := i) (by simpa using e)
    exact ⟨w, by simpa using h1, h2⟩
theorem RpL.get' {ts : List T} {vs : List V} {i : Nat} {v : V} (h : RpL F K H ts vs) (e : vs[i]? = some v) : ∃ t, ts[i]? = some t ∧ Rp F K H t v := by
  have hl := h.len
  have hi : i < ts.length := by have := (List.getElem?_eq_some_iff.mp e).1; omega
  obtain ⟨w, h1, h2⟩ := h.get (List.getElem?_eq_getElem hi)
  rw [e] at h1; cases h1
  exact ⟨_, List.getElem?_eq_getElem hi, h2⟩
theorem RpL.append : ∀ {ts us : List T} {vs ws : List V}, RpL F K H ts vs → RpL F K H us ws → RpL F K H (ts ++ us) (vs ++ ws)
  | [], _, _, _, h, h' => by simp only [RpL] at h; subst h; exact h'
  | t :: ts, us, vs, ws, h, h' => by
    simp only [RpL, List.cons_append] at h ⊢
    obtain ⟨v, r, rfl, h1, h⟩ := h
    exact ⟨v, r ++ ws, rfl, h1, RpL.append h h'⟩
theorem RpL.take : ∀ {ts : List T} {vs : List V} (n : Nat), RpL F K H ts vs → RpL F K H (ts.take n) (vs.take n)
  | _, _, 0, _ => by simp [RpL]
  | [], _, n + 1, h => by simp only [RpL] at h; subst h; simp [RpL]
  | t :: ts, vs, n + 1, h => by
    simp only [RpL] at h
    obtain ⟨v, r, rfl, h1, h⟩ := h
    simp only [List.take_succ_cons, RpL]
    exact ⟨v, r.take n, rfl, h1, RpL.take n h⟩
theorem RpL.drop : ∀ {ts : List T} {vs : List V} (n : Nat), RpL F K H ts vs → RpL F K H (ts.drop n) (vs.drop n)
  | _, _, 0, h => h
  | [], _, n + 1, h => by simp only [RpL] at h; subst h; simp [RpL]
  | t :: ts, vs, n + 1, h => by
    simp only [RpL] at h
    obtain ⟨v, r, rfl, h1, h⟩ := h
    exact RpL.drop n h
theorem RpL.set : ∀ {ts : List T} {vs : List V} {t : T} {v : V} (n : Nat), RpL F K H ts vs → Rp F K H t v → RpL F K H (ts.set n t) (vs.set n v)
  | [], _, _, _, _, h, _ => by simp only [RpL] at h; subst h; simp [RpL]
  | t :: ts, vs, _, _, 0, h, h' => by
    simp only [RpL] at h
    obtain ⟨v, r, rfl, h1, h⟩ := h
    simp only [List.set_cons_zero, RpL]
    exact ⟨_, r, rfl, h', h⟩
  | t :: ts, vs, _, _, n + 1, h, h' => by
    simp only [RpL] at h
    obtain ⟨v, r, rfl, h1, h⟩ := h
    simp only [List.set_cons_succ, RpL]
    exact ⟨_, _, rfl, h1, RpL.set n h h'⟩
theorem RpL.one {t : T} {v : V} (h : Rp F K H t v) : RpL F K H [t] [v] := by simp only [RpL]; exact ⟨v, [], rfl, h, rfl⟩
theorem RpL.nil : RpL F K H [] [] := by simp only [RpL]
theorem RpL.cons {t : T} {v : V} {ts : List T} {vs : List V} (h : Rp F K H t v) (h' : RpL F K H ts vs) : RpL F K H (t :: ts) (v :: vs) := by simp only [RpL]; exact ⟨v, vs, rfl, h, h'⟩
theorem RpL.rep {ts : List T} {vs : List V} (h : RpL F K H ts vs) : ∀ n : Nat, RpL F K H (List.replicate n ts).flatten (List.replicate n vs).flatten
  | 0 => by simp [RpL]
  | n + 1 => by
    simp only [List.replicate_succ, List.flatten_cons]
    exact h.append (RpL.rep h n)

/-- a value as it is read: the top of it may be someone's own -/
def Vr (F : Nat → Addr) (K : PySem.W.Frag) (Hm H : Hp) : T → V → Prop
  | .lst ts, v => ∃ a vs, v = .ref a ∧ H a = some (.lst vs) ∧ vs.length ≤ sizeLine ∧ RpL F K Hm ts vs
  | t, v => Rp F K Hm t v
theorem Rp.vr {Hm H : Hp} (e : Hle Hm H) : ∀ {t : T} {v : V}, Rp F K Hm t v → Vr F K Hm H t v
  | .non, _, h => h
  | .bl _, _, h => h
  | .int _, _, h => h
  | .str _, _, h => h
  | .fn _, _, h => h
  | .dic _, _, h => h
  | .tup _, _, h => h
  | .scr _, _, h => h
  | .lst ts, v, h => by
    simp only [Rp] at h; unfold Vr
    obtain ⟨a, vs, e1, e2, e3, e4⟩ := h
    exact ⟨a, vs, e1, e _ _ e2, e3, e4⟩
theorem Vr.rp {Hm H : Hp} (e : Hle Hm H) : ∀ {t : T} {v : V}, Vr F K Hm H t v → Rp F K H t v
  | .non, _, h => Rp.le e h
  | .bl _, _, h => Rp.le e h
  | .int _, _, h => Rp.le e h
  | .str _, _, h => Rp.le e h
  | .fn _, _, h => Rp.le e h
  | .dic _, _, h => Rp.le e h
  | .scr _, _, h => Rp.le e h
  | .tup _, _, h => Rp.le e h
  | .lst ts, v, h => by
    unfold Vr at h; simp only [Rp]
    obtain ⟨a, vs, e1, e2, e3, e4⟩ := h
    exact ⟨a, vs, e1, e2, e3, e4.le e⟩
/-- the content of an object of one's own -/
def Own (F : Nat → Addr) (K : PySem.W.Frag) (Hm H : Hp) (a : Addr) : T → Prop
  | .lst ts => ∃ vs, H a = some (.lst vs) ∧ vs.length ≤ sizeLine ∧ RpL F K Hm ts vs
  | _ => False
theorem Own.vr {Hm H : Hp} {a : Addr} : ∀ {t : T}, Own F K Hm H a t → Vr F K Hm H t (.ref a)
  | .lst ts, h => by
    obtain ⟨vs, e1, e2, e3⟩ := h
    exact ⟨a, vs, rfl, e1, e2, e3⟩
theorem Own.ref {Hm H : Hp} {a : Addr} : ∀ {t : T}, Own F K Hm H a t → isRef t = true
  | .lst ts, h => rfl
theorem Own.tracked {Hm H : Hp} {a : Addr} : ∀ {t : T}, Own F K Hm H a t → H a ≠ none
  | .lst ts, h => by
    obtain ⟨vs, e1, e2, e3⟩ := h
    rw [e1]; exact fun z => nomatch z
theorem Own.le {Hm H Hm' H' : Hp} {a : Addr} (e : Hle Hm Hm') (e' : H a = H' a) : ∀ {t : T}, Own F K Hm H a t → Own F K Hm' H' a t
  | .lst ts, h => by
    obtain ⟨vs, e1, e2, e3⟩ := h
    exact ⟨vs, e' ▸ e1, e2, e3.le e⟩
theorem Own.rp {Hm H Hn : Hp} {a : Addr} (e : Hle Hm Hn) (e' : ∀ o, H a = some o → Hn a = some o) : ∀ {t : T}, Own F K Hm H a t → Rp F K Hn t (.ref a)
  | .lst ts, h => by
    obtain ⟨vs, e1, e2, e3⟩ := h
    simp only [Rp]
    exact ⟨a, vs, rfl, e' _ e1, e2, e3.le e⟩
end

/-! ### states -/
def isOwn : Option Sl → Prop
  | some (.ow _) => True
  | some (.io _) => True
  | _ => False
def cont : Sl → T
  | .ow t => t
  | .io t => t
  | .sh t => t
  | .un => .non
def ownA (env : Env) (σ : L2.St) (a : Addr) : Prop := ∃ i : Nat, isOwn env[i]? ∧ σ[i]? = some (some (V.ref a))
def MK (B : Addr → Prop) (env : Env) (σ : L2.St) (a : Addr) : Prop := B a ∨ ownA env σ a
structure Sim (F : Nat → Addr) (K : PySem.W.Frag) (B : Addr → Prop) (env : Env) (σ : L2.St) (H : Hp) : Prop where
  len : env.length = σ.length
  sh : ∀ (i : Nat) (t : T), env[i]? = some (.sh t) → ∃ v, σ[i]? = some (some v) ∧ Rp F K (mask (MK B env σ) H) t v
  ow : ∀ (i : Nat) (s : Sl), env[i]? = some s → isOwn (some s) → ∃ a, σ[i]? = some (some (V.ref a)) ∧ Own F K (mask (MK B env σ) H) H a (cont s) ∧ ¬ B a
  ds : ∀ (i j : Nat) (a : Addr), isOwn env[i]? → isOwn env[j]? → σ[i]? = some (some (V.ref a)) → σ[j]? = some (some (V.ref a)) → i = j
  bt : ∀ a, B a → H a ≠ none
/-- what stood and was not one's own stands -/
structure Frm (env : Env) (σ : L2.St) (H H' : Hp) : Prop where
  keep : ∀ a o, H a = some o → ¬ ownA env σ a → H' a = some o
  lost : ∀ a, H' a = none → H a = none
/-- no slot becomes one's own -/
def Le (env env' : Env) : Prop := env'.length = env.length ∧ (∀ i : Nat, isOwn env'[i]? → isOwn env[i]?) ∧ (∀ (i : Nat) (t : T), env[i]? = some (.io t) → ∃ t', env'[i]? = some (.io t')) ∧ ∀ (i : Nat) (t : T), env'[i]? = some (.io t) → ∃ t', env[i]? = some (.io t')
theorem Le.refl {env : Env} : Le env env := ⟨rfl, fun _ h => h, fun i t h => ⟨t, h⟩, fun i t h => ⟨t, h⟩⟩
theorem Le.trans {a b c : Env} (h : Le a b) (h' : Le b c) : Le a c := ⟨h'.1.trans h.1, fun i z => h.2.1 i (h'.2.1 i z), fun i t z => by
  obtain ⟨t', z'⟩ := h.2.2.1 i t z
  exact h'.2.2.1 i t' z', fun i t z => by
  obtain ⟨t', z'⟩ := h'.2.2.2 i t z
  exact h.2.2.2 i t' z'⟩
theorem Le.own {env env' : Env} {σ : L2.St} {a : Addr} (h : Le env env') (z : ownA env' σ a) : ownA env σ a := by
  obtain ⟨i, z1, z2⟩ := z
  exact ⟨i, h.2.1 i z1, z2⟩
theorem Frm.refl {env : Env} {σ : L2.St} {H : Hp} : Frm env σ H H := ⟨fun _ _ h _ => h, fun _ h => h⟩
theorem Frm.trans {env env1 : Env} {σ : L2.St} {H H1 H2 : Hp} (l : Le env env1) (h : Frm env σ H H1) (h' : Frm env1 σ H1 H2) : Frm env σ H H2 :=
  ⟨fun a o e n => h'.keep a o (h.keep a o e n) fun z => n (l.own z), fun a z => h.lost a (h'.lost a z)⟩
theorem MK.le {B : Addr → Prop} {env env1 : Env} {σ : L2.St} {a : Addr} (l : Le env env1) (h : MK B env1 σ a) : MK B env σ a := h.elim .inl fun z => .inr (l.own z)
/-- what is laid aside of one's own stays laid -/
theorem mask_frm {B : Addr → Prop} {env env1 : Env} {σ : L2.St} {H H1 : Hp} (l : Le env env1) (f : Frm env σ H H1) : Hle (mask (MK B env σ) H) (mask (MK B env1 σ) H1) := fun a o e => by
  obtain ⟨h1, h2⟩ := mask_some.mp e
  exact mask_some.mpr ⟨fun z => h1 (z.le l), f.keep a o h2 fun z => h1 (.inr z)⟩
theorem mask_B {B B' : Addr → Prop} {env : Env} {σ : L2.St} {H : Hp} (h : ∀ a, B a → B' a) : Hle (mask (MK B' env σ) H) (mask (MK B env σ) H) := fun a o e => by
  obtain ⟨h1, h2⟩ := mask_some.mp e
  exact mask_some.mpr ⟨fun z => h1 (z.elim (fun z => .inl (h a z)) .inr), h2⟩
theorem mask_of {O : Addr → Prop} {H H' : Hp} (h : ∀ a o, ¬ O a → H a = some o → H' a = some o) : Hle (mask O H) (mask O H') := fun a o e => by
  obtain ⟨h1, h2⟩ := mask_some.mp e
  exact mask_some.mpr ⟨h1, h a o h1 h2⟩
section
variable {F : Nat → Addr} {K : PySem.W.Frag} {B : Addr → Prop} {env : Env} {σ : L2.St} {H : Hp}
theorem Sim.own_lst (S : Sim F K B env σ H) {a : Addr} (h : ownA env σ a) : ∃ vs, H a = some (.lst vs) := by
  obtain ⟨i, h1, h2⟩ := h
  cases e : env[i]? with
  | none => rw [e] at h1; exact h1.elim
  | some s =>
    obtain ⟨b, e1, e2, _⟩ := S.ow i s e (e ▸ h1)
    rw [h2] at e1; cases e1
    cases hc : cont s with
    | lst ts => rw [hc] at e2; obtain ⟨vs, e3, _⟩ := e2; exact ⟨vs, e3⟩
    | _ => rw [hc] at e2; exact e2.elim
theorem Sim.own_some (S : Sim F K B env σ H) {a : Addr} (h : ownA env σ a) : H a ≠ none := by
  obtain ⟨vs, e⟩ := S.own_lst h
  rw [e]; exact fun z => nomatch z
theorem Sim.mk_some (S : Sim F K B env σ H) {a : Addr} (h : MK B env σ a) : H a ≠ none := h.elim (S.bt a) S.own_some
/-- new objects change nothing -/
theorem Sim.grow {H' : Hp} (S : Sim F K B env σ H) (h : Hle H H') : Sim F K B env σ H' := by
  have m : Hle (mask (MK B env σ) H) (mask (MK B env σ) H') := mask_of fun a o _ e => h a o e
  refine ⟨S.len, fun i t e => ?_, fun i s e z => ?_, S.ds, fun a hb z => ?_⟩
  · obtain ⟨v, h1, h2⟩ := S.sh i t e
    exact ⟨v, h1, h2.le m⟩
  · obtain ⟨a, h1, h2, h3⟩ := S.ow i s e z
    refine ⟨a, h1, h2.le m ?_, h3⟩
    cases q : H a with
    | none => exact absurd q h2.tracked
    | some o => exact (h a o q).symm
  · cases q : H a with
    | none => exact S.bt a hb q
    | some o => rw [h a o q] at z; cases z
theorem Hle.lost {H H' : Hp} (h : Hle H H') (a : Addr) (z : H' a = none) : H a = none := by
  cases q : H a with
  | none => rfl
  | some o => rw [h a o q] at z; cases z
theorem Hle.frm {H H' : Hp} (h : Hle H H') : Frm env σ H H' := ⟨fun a o e _ => h a o e, h.lost⟩
/-- fewer are avoided -/
theorem Sim.less {B' : Addr → Prop} (S : Sim F K B' env σ H) (h : ∀ a, B a → B' a) : Sim F K B env σ H := by
  have m := mask_B (env := env) (σ := σ) (H := H) h
  refine ⟨S.len, fun i t e => ?_, fun i s e z => ?_, S.ds, fun a hb => S.bt a (h a hb)⟩
  · obtain ⟨v, h1, h2⟩ := S.sh i t e
    exact ⟨v, h1, h2.le m⟩
  · obtain ⟨a, h1, h2, h3⟩ := S.ow i s e z
    exact ⟨a, h1, h2.le m rfl, fun z => h3 (h a z)⟩
end
end Ev

set_option Elab.async false
set_option linter.all false
set_option maxRecDepth 100000
set_option autoImplicit false
/-! readings of the evaluator's answers; operands -/
namespace Ev
open PySem PySem.Spec PyProof.Rows L2
open Classical

/-! ### the evaluator's steps -/
section
variable {α β : Type} {m : M α} {f : α → M β} {env env' : Env} {a : α} {b : β}
theorem M.bind_def : (m >>= f) env = match m env with | .ok a e => f a e | .ex c a e => .ex c a e | .bad => .bad := rfl
theorem bind_ok : (m >>= f) env = .ok b env' ↔ ∃ a e, m env = .ok a e ∧ f a e = .ok b env' := by
  rw [M.bind_def]
  cases h : m env with
  | ok a e => exact ⟨fun z => ⟨a, e, rfl, z⟩, fun ⟨a', e', h1, h2⟩ => by cases h1; exact h2⟩
  | ex c a e => exact ⟨fun z => (nomatch z), fun ⟨_, _, h1, _⟩ => nomatch h1⟩
  | bad => exact ⟨fun z => (nomatch z), fun ⟨_, _, h1, _⟩ => nomatch h1⟩
theorem pure_ok {b' : α} : (M.pure a : M α) env = .ok b' env' ↔ a = b' ∧ env = env' := by
  unfold M.pure; exact ⟨fun z => by cases z; exact ⟨rfl, rfl⟩, fun ⟨h1, h2⟩ => by rw [h1, h2]⟩

theorem lift_ok {o : Option α} : lift o env = .ok a env' ↔ o = some a ∧ env = env' := by
  cases o with
  | none => exact ⟨fun z => (nomatch z), fun z => nomatch z.1⟩
  | some x => exact ⟨fun z => by cases z; exact ⟨rfl, rfl⟩, fun ⟨h1, h2⟩ => by cases h1; rw [h2]; rfl⟩
theorem fail_ok : (fail : M α) env = .ok a env' ↔ False := ⟨fun z => (nomatch z), False.elim⟩
theorem need_ok {c : Bool} {u : Unit} : need c env = .ok u env' ↔ c = true ∧ env = env' := by
  cases c with
  | false => exact ⟨fun z => (nomatch z), fun z => nomatch z.1⟩
  | true => exact ⟨fun z => by cases z; exact ⟨rfl, rfl⟩, fun z => by rw [z.2]; rfl⟩
theorem peek_ok {i : Nat} {t : T} : peek i env = .ok t env' ↔ env = env' ∧ ∃ s, env[i]? = some s ∧ s ≠ .un ∧ cont s = t := by
  unfold peek
  have hd : env.getD i .un = (env[i]?).getD .un := by simp [List.getD]
  rw [hd]
  cases h : env[i]? with
  | none => exact ⟨fun z => (nomatch z), fun ⟨_, s, h1, _⟩ => nomatch h1⟩
  | some s =>
    cases s with
    | un => exact ⟨fun z => (nomatch z), fun ⟨_, s, h1, h2, _⟩ => by cases h1; exact absurd rfl h2⟩
    | sh t' => exact ⟨fun z => by cases z; exact ⟨rfl, _, rfl, (fun q => nomatch q), rfl⟩, fun ⟨h0, s, h1, h2, h3⟩ => by cases h1; subst h0; subst h3; rfl⟩
    | ow t' => exact ⟨fun z => by cases z; exact ⟨rfl, _, rfl, (fun q => nomatch q), rfl⟩, fun ⟨h0, s, h1, h2, h3⟩ => by cases h1; subst h0; subst h3; rfl⟩
    | io t' => exact ⟨fun z => by cases z; exact ⟨rfl, _, rfl, (fun q => nomatch q), rfl⟩, fun ⟨h0, s, h1, h2, h3⟩ => by cases h1; subst h0; subst h3; rfl⟩
theorem getD_of {i : Nat} {s : Sl} (h : s ≠ .un) : env.getD i .un = s ↔ env[i]? = some s := by
  have hd : env.getD i .un = (env[i]?).getD .un := by simp [List.getD]
  rw [hd]
  cases env[i]? with
  | none => exact ⟨fun z => absurd z.symm h, fun z => nomatch z⟩
  | some x => exact ⟨fun z => by rw [← z]; rfl, fun z => by cases z; rfl⟩
end

/-! ### what is laid behind an evaluation -/
def Ext (B B' : Addr → Prop) (H : Hp) : Prop := (∀ a, B a → B' a) ∧ ∀ a, B' a → B a ∨ H a = none
section
variable (F : Nat → Addr) (K : PySem.W.Frag)
def OpdR (Hm H : Hp) (σ : L2.St) (B : Addr → Prop) : Opd → V → Prop
  | .val t, v => Rp F K Hm t v
  | .slot i, v => σ[i]? = some (some v)
  | .own t, v => ∃ a, v = .ref a ∧ B a ∧ Own F K Hm H a t
/-- behind an operand's evaluation -/
def Pst (B : Addr → Prop) (env env' : Env) (σ : L2.St) (H : Hp) (o : Opd) (v : V) (H' : Hp) : Prop :=
  Frm env σ H H' ∧ Le env env' ∧ ∃ B', Ext B B' H ∧ Sim F K B' env' σ H' ∧ OpdR F K (mask (MK B' env' σ) H') H' σ B' o v ∧
    ∀ t, o = .own t → ∃ a, v = .ref a ∧ H a = none
def PN {α : Type} (B : Addr → Prop) (env env' : Env) (σ : L2.St) (H : Hp) (H' : Hp) : Prop :=
  Frm env σ H H' ∧ Le env env' ∧ Sim F K B env' σ H'
def opd (r : T × Bool) : Opd := if r.2 && isRef r.1 then .own r.1 else .val r.1
def fO (m : M Opd) : TE := fun σ H Q => ∃ B env, Sim F K B env σ H ∧ ∃ o env', m env = .ok o env' ∧ ∀ v H', Pst F K B env env' σ H o v H' → Q v H'
def fE (m : M (T × Bool)) : TE := fun σ H Q => ∃ B env, Sim F K B env σ H ∧ ∃ r env', m env = .ok r env' ∧ ∀ v H', Pst F K B env env' σ H (opd r) v H' → Q v H'
/-- a plain value, whoever holds it -/
def fV (m : M T) : TE := fun σ H Q => ∃ B env, Sim F K B env σ H ∧ ∃ t env', m env = .ok t env' ∧ ∀ v H', Pst F K B env env' σ H (.val t) v H' → Q v H'
def fT (m : M Bool) : TT := fun σ H Q => ∃ B env, Sim F K B env σ H ∧ ∃ b env', m env = .ok b env' ∧ ∀ H', Frm env σ H H' ∧ Le env env' ∧ Sim F K B env' σ H' → Q b H'
def fL (m : M (List T)) : TA := fun σ H Q => ∃ B env, Sim F K B env σ H ∧ ∃ ts env', m env = .ok ts env' ∧ ∀ vs H', Frm env σ H H' ∧ Le env env' ∧ Sim F K B env' σ H' ∧ RpL F K (mask (MK B env' σ) H') ts vs → Q vs H'
end
theorem _root_.L2.PE.imp {X : Cx} {e : Expr} {t t' : TE} (h : PE X e t) (i : ∀ σ H Q, t' σ H Q → t σ H Q) : PE X e t' := ⟨fun pins s σ H Q I q => h.run pins s σ H Q I (i σ H Q q)⟩
theorem _root_.L2.PT.imp {X : Cx} {e : Expr} {t t' : TT} (h : PT X e t) (i : ∀ σ H Q, t' σ H Q → t σ H Q) : PT X e t' := ⟨fun pins s σ H Q I q => h.run pins s σ H Q I (i σ H Q q)⟩
theorem _root_.L2.PA.imp {X : Cx} {e : List Expr} {t t' : TA} (h : PA X e t) (i : ∀ σ H Q, t' σ H Q → t σ H Q) : PA X e t' := ⟨fun pos pins s σ H Q I q => h.run pos pins s σ H Q I (i σ H Q q)⟩
theorem _root_.L2.PS.imp {X : Cx} {e : Stmt} {t t' : TS} (h : PS X e t) (i : ∀ D σ H, t' D σ H → t D σ H) : PS X e t' := ⟨fun pins s σ H Q I q => h.run pins s σ H Q I (i Q σ H q)⟩
theorem _root_.L2.PSs.imp {X : Cx} {e : List Stmt} {t t' : TS} (h : PSs X e t) (i : ∀ D σ H, t' D σ H → t D σ H) : PSs X e t' := ⟨fun pins s σ H Q I q => h.run pins s σ H Q I (i Q σ H q)⟩
theorem _root_.L2.PG.imp {X : Cx} {e : Expr} {t t' : TG} (h : PG X e t) (i : ∀ v σ H Q, t' v σ H Q → t v σ H Q) : PG X e t' := ⟨fun pins s σ H v u Q I r q => h.run pins s σ H v u Q I r (i v σ H Q q)⟩

section
variable {F : Nat → Addr} {K : PySem.W.Frag} {B B' B1 B2 : Addr → Prop} {env env' env1 env2 : Env} {σ : L2.St} {H H' H1 H2 : Hp} {v w : V} {x y o : Opd}
theorem Ext.refl : Ext B B H := ⟨fun _ h => h, fun _ h => .inl h⟩
theorem Ext.trans (f : Frm env σ H H1) (e : Ext B B1 H) (e' : Ext B1 B2 H1) : Ext B B2 H :=
  ⟨fun a h => e'.1 a (e.1 a h), fun a h => (e'.2 a h).elim (e.2 a) fun z => .inr (f.lost a z)⟩
theorem mask_step (l : Le env1 env2) (f : Frm env1 σ H1 H2) (e : Ext B1 B2 H1) : Hle (mask (MK B1 env1 σ) H1) (mask (MK B2 env2 σ) H2) := fun a u q => by
  obtain ⟨h1, h2⟩ := mask_some.mp q
  refine mask_some.mpr ⟨fun z => ?_, f.keep a u h2 fun z => h1 (.inr z)⟩
  rcases z with z | z
  · rcases e.2 a z with z | z
    · exact h1 (.inl z)
    · rw [z] at h2; cases h2
  · exact h1 (.inr (l.own z))
/-- an operand stays, while another one is evaluated -/
theorem OpdR.step (S : Sim F K B1 env1 σ H1) (l : Le env1 env2) (f : Frm env1 σ H1 H2) (e : Ext B1 B2 H1) (h : OpdR F K (mask (MK B1 env1 σ) H1) H1 σ B1 o v) : OpdR F K (mask (MK B2 env2 σ) H2) H2 σ B2 o v := by
  cases o with
  | val t => exact Rp.le (mask_step l f e) h
  | slot i => exact h
  | own t =>
    obtain ⟨a, rfl, hb, ho⟩ := h
    refine ⟨a, rfl, e.1 a hb, ho.le (mask_step l f e) ?_⟩
    cases q : H1 a with
    | none => exact absurd q ho.tracked
    | some u =>
      refine (f.keep a u q fun z => ?_).symm
      obtain ⟨i, z1, z2⟩ := z
      cases q2 : env1[i]? with
      | none => rw [q2] at z1; exact z1
      | some s =>
        obtain ⟨b, e1, _, e3⟩ := S.ow i s q2 (q2 ▸ z1)
        rw [z2] at e1; cases e1
        exact e3 hb
/-- an operand as a plain value -/
theorem OpdR.plain {t : T} (S : Sim F K B' env' σ H') (e : Ext B B' H) (hn : ∀ t, o = .own t → ∃ a, v = .ref a ∧ H a = none) (hB : ∀ a, B a → H a ≠ none) (hs : o = .val t ∨ o = .own t)
    (h : OpdR F K (mask (MK B' env' σ) H') H' σ B' o v) : Rp F K (mask (MK B env' σ) H') t v := by
  rcases hs with rfl | rfl
  · exact Rp.le (mask_B e.1) h
  · obtain ⟨a, rfl, hb, ho⟩ := h
    obtain ⟨a', e1, e2⟩ := hn t rfl
    cases e1
    refine ho.rp (mask_B e.1) fun u q => mask_some.mpr ⟨fun z => ?_, q⟩
    rcases z with z | z
    · exact hB a z e2
    · obtain ⟨i, z1, z2⟩ := z
      cases q2 : env'[i]? with
      | none => rw [q2] at z1; exact z1
      | some s =>
        obtain ⟨b, e1, _, e3⟩ := S.ow i s q2 (q2 ▸ z1)
        rw [z2] at e1; cases e1
        exact e3 hb
theorem opd_cases (r : T × Bool) : opd r = .val r.1 ∨ opd r = .own r.1 := by
  unfold opd; split
  · exact .inr rfl
  · exact .inl rfl
theorem Pst.val {t : T} (S : Sim F K B env σ H) (hs : o = .val t ∨ o = .own t) (h : Pst F K B env env' σ H o v H') : Pst F K B env env' σ H (.val t) v H' := by
  obtain ⟨f, l, B', e, S', r, hn⟩ := h
  exact ⟨f, l, B, .refl, S'.less e.1, r.plain S' e hn S.bt hs, fun t z => nomatch z⟩
/-- a value that is made of what stands -/
theorem Pst.mk (f : Frm env σ H H') (l : Le env env') (S' : Sim F K B env' σ H') {t : T} (h : Rp F K (mask (MK B env' σ) H') t v) : Pst F K B env env' σ H (.val t) v H' :=
  ⟨f, l, B, .refl, S', h, fun t z => nomatch z⟩
end
end Ev

set_option Elab.async false
set_option linter.all false
set_option maxRecDepth 100000
set_option autoImplicit false
namespace Ev
open PySem PySem.Spec PyProof.Rows L2
open Classical
section
variable {F : Nat → Addr} {K : PySem.W.Frag} {B B' B1 B2 : Addr → Prop} {env env' env1 env2 : Env} {σ : L2.St} {H H' H1 H2 H3 : Hp} {v w : V} {x y o : Opd} {t : T}
theorem set_get {i j : Nat} {s : Sl} {z : Option Sl} (h : (env.set i s)[j]? = z) : (i = j ∧ i < env.length ∧ z = some s) ∨ (¬ (i = j ∧ i < env.length) ∧ env[j]? = z) := by
  by_cases e : i = j
  · subst e
    by_cases hl : i < env.length
    · rw [List.getElem?_set_self hl] at h
      exact .inl ⟨rfl, hl, h.symm⟩
    · refine .inr ⟨fun q => hl q.2, ?_⟩
      rw [← h, List.getElem?_eq_none (by omega), List.getElem?_eq_none (by rw [List.length_set]; omega)]
  · rw [List.getElem?_set_ne e] at h
    exact .inr ⟨fun q => e q.1, h⟩
theorem Le.setSh {i : Nat} (hi : ∀ t, env[i]? ≠ some (.io t)) : Le env (env.set i (.sh t)) := by
  refine ⟨by simp, fun j h => ?_, fun j u h => ?_, fun j u h => ?_⟩
  · rcases set_get (env := env) (i := i) (j := j) (s := .sh t) rfl with ⟨_, _, e⟩ | ⟨_, e⟩
    · rw [e] at h; exact h.elim
    · rw [e]; exact h
  · by_cases e : i = j
    · subst e; exact absurd h (hi u)
    · exact ⟨u, by rw [List.getElem?_set_ne e]; exact h⟩
  · rcases set_get h with ⟨_, _, e⟩ | ⟨_, e⟩
    · cases e
    · exact ⟨u, e⟩
theorem Sim.share {i : Nat} {v : V} (S : Sim F K B env σ H) (h : env[i]? = some (.ow t)) (hv : σ[i]? = some (some v)) :
    Le env (env.set i (.sh t)) ∧ Sim F K B (env.set i (.sh t)) σ H ∧ Rp F K (mask (MK B (env.set i (.sh t)) σ) H) t v := by
  have l : Le env (env.set i (.sh t)) := Le.setSh fun u q => by rw [h] at q; cases q
  have m : Hle (mask (MK B env σ) H) (mask (MK B (env.set i (.sh t)) σ) H) := mask_frm l .refl
  obtain ⟨a, e1, e2, e3⟩ := S.ow i _ h trivial
  rw [hv] at e1; cases e1
  have rp : Rp F K (mask (MK B (env.set i (.sh t)) σ) H) t (.ref a) := by
    refine Own.rp (t := t) m (fun u q => mask_some.mpr ⟨fun z => ?_, q⟩) e2
    rcases z with z | ⟨j, z1, z2⟩
    · exact e3 z
    · have hj := l.2.1 j z1
      have : i = j := S.ds i j a (by rw [h]; trivial) hj hv z2
      subst this
      rw [List.getElem?_set_self (by have := List.getElem?_eq_some_iff.mp h; exact this.1)] at z1
      exact z1
  refine ⟨l, ⟨by rw [List.length_set]; exact S.len, fun j u q => ?_, fun j s q z => ?_, fun j k b h1 h2 => S.ds j k b (l.2.1 j h1) (l.2.1 k h2), S.bt⟩, rp⟩
  · rcases set_get q with ⟨e, _, e2⟩ | ⟨_, q⟩
    · cases e2; subst e; exact ⟨_, hv, rp⟩
    · obtain ⟨w, h1, h2⟩ := S.sh j u q
      exact ⟨w, h1, h2.le m⟩
  · rcases set_get q with ⟨_, _, e2⟩ | ⟨_, q⟩
    · cases e2; exact z.elim
    · obtain ⟨b, h1, h2, h3⟩ := S.ow j s q z
      exact ⟨b, h1, h2.le m rfl, h3⟩
theorem mask_add {p : Addr} (hp : H p = none) (e : Hle H H') : Hle (mask (MK B env σ) H) (mask (MK (fun a => B a ∨ a = p) env σ) H') := fun a o q => by
  obtain ⟨h1, h2⟩ := mask_some.mp q
  refine mask_some.mpr ⟨fun z => ?_, e a o h2⟩
  rcases z with (z | z) | z
  · exact h1 (.inl z)
  · subst z; rw [hp] at h2; cases h2
  · exact h1 (.inr z)
/-- a new object is avoided -/
theorem Sim.add {p : Addr} (S : Sim F K B env σ H) (e : Hle H H') (hp : H p = none) (hp' : H' p ≠ none) : Sim F K (fun a => B a ∨ a = p) env σ H' := by
  have m : Hle (mask (MK B env σ) H) _ := mask_add (B := B) (env := env) (σ := σ) hp e
  refine ⟨S.len, fun i t q => ?_, fun i s q z => ?_, S.ds, fun a q => ?_⟩
  · obtain ⟨v, h1, h2⟩ := S.sh i t q
    exact ⟨v, h1, h2.le m⟩
  · obtain ⟨a, h1, h2, h3⟩ := S.ow i s q z
    have ha : H a = H' a := by
      cases q : H a with
      | none => exact absurd q h2.tracked
      | some o => exact (e a o q).symm
    refine ⟨a, h1, h2.le m ha, fun z => z.elim h3 fun z => ?_⟩
    subst z; exact h2.tracked hp
  · rcases q with q | q
    · exact (S.grow e).bt a q
    · rw [q]; exact hp'
/-- an operator's answer -/
def NewR (F : Nat → Addr) (K : PySem.W.Frag) (Hm H : Hp) (r : T × Bool) (v : V) (H' : Hp) : Prop :=
  Hle H H' ∧ if (r.2 && isRef r.1) = true then ∃ p, v = .ref p ∧ H p = none ∧ Own F K Hm H' p r.1
    else ∃ Hx, Hle Hx H' ∧ (∀ a o, Hx a = some o → Hm a = some o ∨ H a = none) ∧ Rp F K Hx r.1 v
theorem NewR.old {Hm : Hp} (h : Rp F K Hm t v) (e : Hle Hm H) : NewR F K Hm H (t, false) v H :=
  ⟨.refl, by rw [if_neg (by simp)]; exact ⟨Hm, e, fun a o q => .inl q, h⟩⟩
theorem NewR.flat {Hm : Hp} {fr : Bool} (h : Rp F K Hm t v) (e : Hle Hm H) (ht : isRef t = false) : NewR F K Hm H (t, fr) v H :=
  ⟨.refl, by rw [if_neg (by simp [ht])]; exact ⟨Hm, e, fun a o q => .inl q, h⟩⟩
theorem upd_le {p : Addr} {o : HO} (h : H p = none) : Hle H (upd H p o) := fun a u q => by
  rw [upd_ne (ne_of_none q h)]; exact q
theorem upd_le2 {p : Addr} {o : HO} (h : Hle H H') : Hle (upd H p o) (upd H' p o) := fun a u q => by
  unfold upd at q ⊢
  split
  · rename_i e; rw [if_pos e] at q; exact q
  · rename_i e; rw [if_neg e] at q; exact h a u q
theorem NewR.tup {Hm : Hp} {p : Addr} {ts : List T} {vs : List V} {fr : Bool} (h : RpL F K Hm ts vs) (e : Hle Hm H) (hp : H p = none) (hl : vs.length ≤ sizeLine) : NewR F K Hm H (.tup ts, fr) (.ref p) (upd H p (.tup vs)) := by
  refine ⟨upd_le hp, ?_⟩
  rw [if_neg (by simp [isRef])]
  have hm : Hm p = none := by
    cases q : Hm p with
    | none => rfl
    | some o => rw [e p o q] at hp; cases hp
  refine ⟨upd Hm p (.tup vs), upd_le2 e, fun a o q => ?_, ?_⟩
  · by_cases ha : a = p
    · subst ha; exact .inr hp
    · rw [upd_ne ha] at q; exact .inl q
  · simp only [Rp]
    exact ⟨p, vs, rfl, upd_same, hl, h.le (upd_le hm)⟩
theorem NewR.lst {Hm : Hp} {p : Addr} {ts : List T} {vs : List V} (h : RpL F K Hm ts vs) (hp : H p = none) (hl : vs.length ≤ sizeLine) : NewR F K Hm H (.lst ts, true) (.ref p) (upd H p (.lst vs)) := by
  refine ⟨upd_le hp, ?_⟩
  rw [if_pos (by simp [isRef])]
  exact ⟨p, rfl, hp, vs, upd_same, hl, h⟩
/-- .. behind the operands' evaluation -/
theorem NewR.po {r : T × Bool} (S0 : Sim F K B env σ H) (S : Sim F K B2 env2 σ H2) (e : Ext B B2 H) (f : Frm env σ H H2) (l : Le env env2) (h : NewR F K (mask (MK B2 env2 σ) H2) H2 r v H3) :
    Pst F K B env env2 σ H (opd r) v H3 := by
  obtain ⟨g, h⟩ := h
  have f3 : Frm env σ H H3 := f.trans l (env1 := env2) g.frm
  have S1 : Sim F K B env2 σ H2 := S.less e.1
  refine ⟨f3, l, ?_⟩
  unfold opd
  by_cases c : (r.2 && isRef r.1) = true
  · rw [if_pos c] at h ⊢
    obtain ⟨p, rfl, hp, ho⟩ := h
    have hp' : H3 p ≠ none := ho.tracked
    refine ⟨fun a => B a ∨ a = p, ⟨fun a q => .inl q, fun a q => q.elim .inl fun z => .inr (by rw [z]; exact f.lost p hp)⟩, S1.add g hp hp', ⟨p, rfl, .inr rfl, ?_⟩, fun t q => ⟨p, rfl, f.lost p hp⟩⟩
    exact ho.le ((mask_B e.1).trans (mask_add hp g)) rfl
  · rw [if_neg c] at h ⊢
    obtain ⟨Hx, h1, h2, h3⟩ := h
    refine ⟨B, .refl, S1.grow g, ?_, fun t q => nomatch q⟩
    refine Rp.le (fun a o q => ?_) h3
    refine mask_some.mpr ⟨fun z => ?_, h1 a o q⟩
    rcases h2 a o q with q' | q'
    · exact (mask_some.mp (mask_B e.1 a o q')).1 z
    · exact S1.mk_some z q'
/-- an operand's value, where it is needed -/
theorem OpdR.vr (S : Sim F K B env σ H) (h : OpdR F K (mask (MK B env σ) H) H σ B o v) (e : res o env = .ok t env') : env' = env ∧ Vr F K (mask (MK B env σ) H) H t v := by
  cases o with
  | val u =>
    obtain ⟨rfl, rfl⟩ := pure_ok.mp e
    exact ⟨rfl, Rp.vr mask_le h⟩
  | own u =>
    obtain ⟨rfl, rfl⟩ := pure_ok.mp e
    obtain ⟨a, rfl, _, ho⟩ := h
    exact ⟨rfl, ho.vr⟩
  | slot i =>
    obtain ⟨rfl, s, h1, h2, h3⟩ := peek_ok.mp e
    refine ⟨rfl, ?_⟩
    subst h3
    have h : σ[i]? = some (some v) := h
    cases s with
    | un => exact absurd rfl h2
    | sh u =>
      obtain ⟨w, e1, e2⟩ := S.sh i u h1
      rw [h] at e1; cases e1
      exact Rp.vr mask_le e2
    | ow u =>
      obtain ⟨a, e1, e2, _⟩ := S.ow i _ h1 trivial
      rw [h] at e1; cases e1
      exact Own.vr (t := u) e2
    | io u =>
      obtain ⟨a, e1, e2, _⟩ := S.ow i _ h1 trivial
      rw [h] at e1; cases e1
      exact Own.vr (t := u) e2
/-- two operands, one behind the other -/
theorem two {ma mb : M Opd} {R : V → V → Hp → Prop} (S : Sim F K B env σ H) (ha : ma env = .ok x env1) (hb : mb env1 = .ok y env2)
    (k : ∀ v w H2 B2, Frm env σ H H2 → Le env env2 → Ext B B2 H → Sim F K B2 env2 σ H2 → OpdR F K (mask (MK B2 env2 σ) H2) H2 σ B2 x v → OpdR F K (mask (MK B2 env2 σ) H2) H2 σ B2 y w → R v w H2) :
    fO F K ma σ H fun v H1 => fO F K mb σ H1 fun w H2 => R v w H2 := by
  refine ⟨B, env, S, x, env1, ha, fun v H1 ⟨f1, l1, B1, e1, S1, r1, _⟩ => ?_⟩
  refine ⟨B1, env1, S1, y, env2, hb, fun w H2 ⟨f2, l2, B2, e2, S2, r2, _⟩ => ?_⟩
  exact k v w H2 B2 (f1.trans l1 f2) (l1.trans l2) (e1.trans f1 e2) S2 (r1.step S1 l2 f2 e2) r2
end
end Ev

set_option Elab.async false
set_option linter.all false
set_option maxRecDepth 100000
set_option autoImplicit false
namespace Ev
open PySem PySem.Spec PyProof.Rows L2
open Classical
theorem lim_line : LIM ≤ sizeLine := by decide
section
variable {F : Nat → Addr} {X : Cx} {B B' B1 B2 : Addr → Prop} {env env' env1 env2 : Env} {σ : L2.St} {H H' H1 H2 H3 : Hp} {v w : V} {x y o : Opd} {t : T} {e a b : Expr} {pos : Pos}
/-! ### leaves -/
theorem ee_const {v : V} {t : T} (h : PE X e (tC v)) (r : ∀ Hm, Rp F X.K Hm t v) : PE X e (fE F X.K (M.pure (t, false))) := by
  refine h.imp fun σ H Q ⟨B, env, S, r1, env', h0, q⟩ => ?_
  obtain ⟨rfl, rfl⟩ := pure_ok.mp h0
  exact q v H (Pst.mk .refl .refl S (r _))
theorem ee_var {i : Nat} (h : PE X e (tVar i)) : PE X e (fE F X.K (rd i)) := by
  refine h.imp fun σ H Q ⟨B, env, S, r1, env', h0, q⟩ => ?_
  unfold rd at h0
  split at h0
  · rename_i t ht
    cases h0
    obtain ⟨v, e1, e2⟩ := S.sh i t ((getD_of (s := .sh t) (fun z => nomatch z)).mp ht)
    exact ⟨v, e1, q v H (Pst.mk .refl .refl S e2)⟩
  · rename_i t ht
    cases h0
    have ht := (getD_of (s := .ow t) (fun z => nomatch z)).mp ht
    obtain ⟨a, e1, _⟩ := S.ow i _ ht trivial
    obtain ⟨l, S', e2⟩ := S.share ht e1
    exact ⟨.ref a, e1, q _ H (Pst.mk .refl l S' e2)⟩
  · cases h0
theorem eo_var {i : Nat} (h : PE X e (tVar i)) : PE X e (fO F X.K (do let _ ← peek i; M.pure (.slot i))) := by
  refine h.imp fun σ H Q ⟨B, env, S, r1, env', h0, q⟩ => ?_
  obtain ⟨t, env1, h1, h2⟩ := bind_ok.mp h0
  obtain ⟨rfl, rfl⟩ := pure_ok.mp h2
  obtain ⟨rfl, s, e1, e2, e3⟩ := peek_ok.mp h1
  have : ∃ v, σ[i]? = some (some v) := by
    cases s with
    | un => exact absurd rfl e2
    | sh u => obtain ⟨v, z, _⟩ := S.sh i u e1; exact ⟨v, z⟩
    | ow u => obtain ⟨a, z, _⟩ := S.ow i _ e1 trivial; exact ⟨_, z⟩
    | io u => obtain ⟨a, z, _⟩ := S.ow i _ e1 trivial; exact ⟨_, z⟩
  obtain ⟨v, hv⟩ := this
  exact ⟨v, hv, q v H ⟨.refl, .refl, B, .refl, S, hv, fun t z => nomatch z⟩⟩
theorem eo_of {m : M (T × Bool)} (h : PE X e (fE F X.K m)) : PE X e (fO F X.K (do let (t, _) ← m; M.pure (.val t))) := by
  refine h.imp fun σ H Q ⟨B, env, S, r1, env', h0, q⟩ => ?_
  obtain ⟨r, env1, h1, h2⟩ := bind_ok.mp h0
  obtain ⟨rfl, rfl⟩ := pure_ok.mp h2
  exact ⟨B, env, S, r, _, h1, fun v H' p => q v H' (p.val S (opd_cases r))⟩
/-- .. as a plain value -/
theorem ev_of {m : M (T × Bool)} (h : PE X e (fE F X.K m)) : PE X e (fV F X.K (do let (t, _) ← m; M.pure t)) := by
  refine h.imp fun σ H Q ⟨B, env, S, r1, env', h0, q⟩ => ?_
  obtain ⟨r, env1, h1, h2⟩ := bind_ok.mp h0
  obtain ⟨rfl, rfl⟩ := pure_ok.mp h2
  exact ⟨B, env, S, r, _, h1, fun v H' p => q v H' (p.val S (opd_cases r))⟩
/-- a value that a name of another kind brings (no new list) -/
theorem ee_flat {m : M (T × Bool)} {m' : M T} (h : PE X e (fV F X.K m')) (i : ∀ env r env', m env = .ok r env' → r.2 = false ∧ m' env = .ok r.1 env') : PE X e (fE F X.K m) := by
  refine h.imp fun σ H Q ⟨B, env, S, r, env', h0, q⟩ => ?_
  obtain ⟨e1, e2⟩ := i _ _ _ h0
  refine ⟨B, env, S, r.1, env', e2, fun v H' p => q v H' ?_⟩
  have : opd r = .val r.1 := by unfold opd; rw [e1]; simp
  rw [this]; exact p

/-! ### operators -/
/-- a binary operator answers as the evaluator's function -/
def R2S (F : Nat → Addr) (X : Cx) (f : T → T → Option (T × Bool)) (r : R2) : Prop :=
  ∀ (t u : T) (z : T × Bool) (Hm H : Hp) (v w : V) (Q : VK), Hle Hm H → f t u = some z → Vr F X.K Hm H t v → Vr F X.K Hm H u w → (∀ v' H', NewR F X.K Hm H z v' H' → Q v' H') → r v w H Q
theorem ee_op {ma mb : M Opd} {f : T → T → Option (T × Bool)} {r : R2} (ha : PE X a (fO F X.K ma)) (hb : PE X b (fO F X.K mb)) (hr : R2S F X f r)
    (h : ∀ ta tb, PE X a ta → PE X b tb → PE X e (tOp r ta tb)) :
    PE X e (fE F X.K (do let x ← ma; let y ← mb; let x ← res x; let y ← res y; lift (f x y))) := by
  refine (h _ _ ha hb).imp fun σ H Q ⟨B, env, S, r1, env', h0, q⟩ => ?_
  obtain ⟨x, env1, a1, b1⟩ := bind_ok.mp h0
  obtain ⟨y, env2, a2, b2⟩ := bind_ok.mp b1
  obtain ⟨t, env3, a3, b3⟩ := bind_ok.mp b2
  obtain ⟨u, env4, a4, b4⟩ := bind_ok.mp b3
  obtain ⟨a5, rfl⟩ := lift_ok.mp b4
  refine two S a1 a2 fun v w H2 B2 f2 l2 e2 S2 rx ry => ?_
  obtain ⟨rfl, vx⟩ := rx.vr S2 a3
  obtain ⟨rfl, vy⟩ := ry.vr S2 a4
  exact hr t u _ _ H2 v w Q mask_le a5 vx vy fun v' H' n => q v' H' (n.po S S2 e2 f2 l2)
theorem R2S.or {f : T → T → Option (T × Bool)} {g : T → T → Option (T × Bool)} {r r' : R2} (h : R2S F X f r) (h' : R2S F X g r') : R2S F X (fun t u => (f t u).or (g t u)) fun x y H Q => r x y H Q ∨ r' x y H Q := by
  intro t u z Hm H v w Q e hz hv hw q
  cases hf : f t u with
  | some z' =>
    simp only [hf, Option.some_or] at hz; cases hz
    exact .inl (h t u _ Hm H v w Q e hf hv hw q)
  | none =>
    simp only [hf, Option.none_or] at hz
    exact .inr (h' t u z Hm H v w Q e hz hv hw q)
theorem r2_int {g : Int → Int → Option T} {r : R2} (h : ∀ i j z H Q, g i j = some z → isRef z = false ∧ ∃ v, (∀ Hm, Rp F X.K Hm z v) ∧ (Q v H → r (.int i) (.int j) H Q)) : R2S F X (onI g) r := by
  intro t u z Hm H v w Q e hz hv hw q
  unfold onI at hz
  split at hz
  · rename_i i j
    cases hg : g i j with
    | none => rw [hg] at hz; cases hz
    | some z' =>
      rw [hg] at hz; cases hz
      obtain ⟨h1, x, h2, h3⟩ := h i j z' H Q hg
      have hv : v = .int i := hv
      have hw : w = .int j := hw
      subst hv hw
      exact h3 (q x H (.flat (h2 Hm) e h1))
  · cases hz
theorem r2_addI : R2S F X (onI fun i j => some (.int (i + j))) (rI0 fun i j => .int (i + j)) := r2_int fun i j z H Q h => by
  cases h; exact ⟨rfl, .int (i + j), fun _ => by simp [Rp], fun q => ⟨i, j, rfl, rfl, q⟩⟩
theorem r2_subI : R2S F X (onI fun i j => some (.int (i - j))) (rI0 fun i j => .int (i - j)) := r2_int fun i j z H Q h => by
  cases h; exact ⟨rfl, .int (i - j), fun _ => by simp [Rp], fun q => ⟨i, j, rfl, rfl, q⟩⟩
theorem log2_lt {n k : Nat} (h : n < 2 ^ k) (hk : 0 < k) : n.log2 < k := by
  by_cases e : n = 0
  · subst e; simpa using hk
  · exact (Nat.log2_lt e).mpr h
theorem r2_mulI : R2S F X (onI fun i j => if mulOk i j then some (.int (i * j)) else none) (fun x y H Q => rI CMul (fun i j => .int (i * j)) x y H Q ∨ rI CMulW (fun i j => .int (i * j)) x y H Q) := r2_int fun i j z H Q h => by
  split at h
  · rename_i c
    cases h
    refine ⟨rfl, .int (i * j), fun _ => by simp [Rp], fun q => ?_⟩
    unfold mulOk at c
    simp only [Bool.or_eq_true, decide_eq_true_eq] at c
    rcases c with (c | c) | c
    · exact .inl ⟨i, j, rfl, rfl, .inl (by omega), q⟩
    · exact .inl ⟨i, j, rfl, rfl, .inr (by omega), q⟩
    · refine .inr ⟨i, j, rfl, rfl, ?_, q⟩
      have h1 := log2_lt c.1 (by decide)
      have h2 := log2_lt c.2 (by decide)
      unfold CMulW; omega
  · cases h
theorem r2_modI : R2S F X (onI fun i j => if 0 < j then some (.int (i % j)) else none) (rI (fun _ j => 0 < j) fun i j => .int (i % j)) := r2_int fun i j z H Q h => by
  split at h
  · rename_i c; cases h; exact ⟨rfl, .int (i % j), fun _ => by simp [Rp], fun q => ⟨i, j, rfl, rfl, c, q⟩⟩
  · cases h
theorem r2_fdivI : R2S F X (onI fun i j => if 0 < j ∧ j < 2 ^ 8000 then some (.int (i / j)) else none) (rI CDivW fun i j => .int (i / j)) := r2_int fun i j z H Q h => by
  split at h
  · rename_i c; cases h
    refine ⟨rfl, .int (i / j), fun _ => by simp [Rp], fun q => ⟨i, j, rfl, rfl, ⟨c.1, ?_⟩, q⟩⟩
    have hj : j.natAbs < 2 ^ 8000 := by
      have h1 : ((j.natAbs : Nat) : Int) = j := Int.natAbs_of_nonneg (Int.le_of_lt c.1)
      have h2 : ((j.natAbs : Nat) : Int) < ((2 ^ 8000 : Nat) : Int) := by rw [h1]; exact c.2
      exact Int.ofNat_lt.mp h2
    exact Nat.lt_trans (log2_lt hj (by decide)) (by decide)
  · cases h
theorem r2_powI : R2S F X (onI fun i j => if 0 ≤ j ∧ j ≤ 1000 ∧ i.natAbs < 2 ^ 64 then some (.int (i ^ j.toNat)) else none) (rI CPow fun i j => .int (i ^ j.toNat)) := r2_int fun i j z H Q h => by
  split at h
  · rename_i c; cases h
    exact ⟨rfl, .int (i ^ j.toNat), fun _ => by simp [Rp], fun q => ⟨i, j, rfl, rfl, ⟨c.1, by omega, c.2.2⟩, q⟩⟩
  · cases h
theorem r2_addS : R2S F X addS (fun x y H Q => ∃ i j, x = .str i ∧ y = .str j ∧ i.length + j.length ≤ sizeLine ∧ Q (.str (i ++ j)) H) := by
  intro t u z Hm H v w Q e hz hv hw q
  unfold addS at hz
  split at hz
  · rename_i x y
    split at hz
    · rename_i c
      cases hz
      have hv : v = .str x := hv
      have hw : w = .str y := hw
      subst hv hw
      exact ⟨x, y, rfl, rfl, Nat.le_trans c lim_line, q _ H (.flat (by simp [Rp]) e rfl)⟩
    · cases hz
  · cases hz
theorem NewR.oldF {Hm : Hp} {fr : Bool} (h : Rp F X.K Hm t v) (e : Hle Hm H) (ht : isRef t = false) : NewR F X.K Hm H (t, fr) v H := .flat h e ht
theorem r2_addT : R2S F X addT (rCatA X.K) := by
  intro t u z Hm H v w Q e hz hv hw q
  unfold addT at hz
  split at hz
  · rename_i xs ys
    split at hz
    · rename_i c
      cases hz
      have hv' : Rp F X.K Hm (.tup xs) v := hv
      have hw' : Rp F X.K Hm (.tup ys) w := hw
      have hv2 := hv'
      have hw2 := hw'
      simp only [Rp] at hv2 hw2
      obtain ⟨a, vs, rfl, h1, h2, h3⟩ := hv2
      obtain ⟨b, ws, rfl, k1, k2, k3⟩ := hw2
      have l1 := h3.len
      have l2 := k3.len
      have hl : vs.length + ws.length ≤ sizeLine := by have := lim_line; omega
      refine ⟨a, b, vs, ws, rfl, rfl, .inl (.inl (e _ _ h1)), .inl (.inl (e _ _ k1)), hl, fun z => q _ H ?_, fun z1 z2 => q _ H ?_, fun z1 z2 p hp => q _ _ (.tup (h3.append k3) e hp (by rw [List.length_append]; omega))⟩
      · subst z
        have : xs = [] := List.eq_nil_of_length_eq_zero l1
        subst this
        exact .flat hw' e rfl
      · subst z2
        have : ys = [] := List.eq_nil_of_length_eq_zero l2
        subst this
        rw [List.append_nil]
        exact .flat hv' e rfl
    · cases hz
  · cases hz
theorem r2_addL : R2S F X addL rCat := by
  intro t u z Hm H v w Q e hz hv hw q
  unfold addL at hz
  split at hz
  · rename_i xs ys
    split at hz
    · rename_i c
      cases hz
      obtain ⟨a, vs, rfl, h1, h2, h3⟩ := hv
      obtain ⟨b, ws, rfl, k1, k2, k3⟩ := hw
      have l1 := h3.len
      have l2 := k3.len
      have hl : vs.length + ws.length ≤ sizeLine := by have := lim_line; omega
      exact ⟨a, b, vs, ws, rfl, rfl, h1, k1, hl, fun p hp => q _ _ (.lst (h3.append k3) hp (by rw [List.length_append]; omega))⟩
    · cases hz
  · cases hz
theorem flat_rep_len {α : Type} (xs : List α) (n : Nat) : (List.replicate n xs).flatten.length = n * xs.length := by
  simp [List.length_flatten, List.map_replicate, List.sum_replicate_nat]
theorem r2_mulL : R2S F X mulL rRep := by
  intro t u z Hm H v w Q e hz hv hw q
  unfold mulL at hz
  split at hz
  · rename_i xs k
    split at hz
    · rename_i c
      cases hz
      obtain ⟨a, vs, rfl, h1, h2, h3⟩ := hv
      have hw : w = .int k := hw
      subst hw
      have l1 := h3.len
      have c1 := c.1
      have c2 := c.2
      have hlim : (LIM : Int) = 1000000 := rfl
      have hb : vs.length * k.toNat ≤ sizeLine := by rw [← l1]; exact Nat.le_trans c1 lim_line
      exact ⟨a, k, vs, rfl, rfl, h1, by omega, by omega, hb, fun p hp => q _ _ (.lst (h3.rep _) hp (by rw [flat_rep_len, Nat.mul_comm]; exact hb))⟩
    · cases hz
  · cases hz
theorem r2_mulT : R2S F X mulT (rRepT X.K) := by
  intro t u z Hm H v w Q e hz hv hw q
  unfold mulT at hz
  split at hz
  · rename_i xs k
    split at hz
    · rename_i c
      cases hz
      have hv2 : Rp F X.K Hm (.tup xs) v := hv
      simp only [Rp] at hv2
      obtain ⟨a, vs, rfl, h1, h2, h3⟩ := hv2
      have hw : w = .int k := hw
      subst hw
      have l1 := h3.len
      obtain ⟨c1, c2, c3, c4⟩ := c
      refine ⟨a, k, vs, rfl, rfl, .inl (.inl (e _ _ h1)), fun z => c1 ?_, c2, c3, by omega, fun p hp => q _ _ (.tup (h3.rep _) e hp ?_)⟩
      · subst z; exact List.eq_nil_of_length_eq_zero l1
      · rw [flat_rep_len]
        have k1 : k.toNat ≤ 1000 := by omega
        have k2 : k.toNat * vs.length ≤ 1000 * 1000 := Nat.mul_le_mul k1 (by omega)
        exact Nat.le_trans k2 (by decide)
    · cases hz
  · cases hz
theorem r2_mulT1 : R2S F X mulT1 (HT.rRepT1 X.K) := by
  intro t u z Hm H v w Q e hz hv hw q
  unfold mulT1 at hz
  split at hz
  · rename_i xs k
    have hv2 : Rp F X.K Hm (.tup xs) v := by
      split at hz
      · cases hz; exact hv
      · split at hz
        · exact hv
        · cases hz
    have hv3 := hv2
    simp only [Rp] at hv2
    obtain ⟨a, vs, rfl, h1, h2, h3⟩ := hv2
    have hw : w = .int k := hw
    subst hw
    have l1 := h3.len
    split at hz
    · rename_i c
      cases hz
      obtain ⟨c1, rfl⟩ := c
      exact ⟨a, 1, vs, rfl, rfl, .inl (.inl (e _ _ h1)), fun z => c1 (by subst z; exact List.eq_nil_of_length_eq_zero l1), by decide, .inl ⟨rfl, q _ _ (.oldF hv3 e rfl)⟩⟩
    · split at hz
      · rename_i c
        cases hz
        obtain ⟨c1, c2, c3⟩ := c
        exact ⟨a, k, vs, rfl, rfl, .inl (.inl (e _ _ h1)), fun z => c1 (by subst z; exact List.eq_nil_of_length_eq_zero l1), c2, .inr ⟨c3, fun p hp => q _ _ (.tup (vs := []) .nil e hp (Nat.zero_le _))⟩⟩
      · cases hz
  · cases hz
def binOp : Bin → Operator
  | .add => .Add | .sub => .Sub | .mul => .Mult | .fdiv => .FloorDiv | .mod => .Mod | .pow => .Pow | .shl => .LShift | .shr => .RShift | .band => .BitAnd | .bor => .BitOr
theorem ee_bin {o : Bin} {ma mb : M Opd} (ha : PE X a (fO F X.K ma)) (hb : PE X b (fO F X.K mb)) :
    PE X (.BinOp a (binOp o) b pos) (fE F X.K (do let x ← ma; let y ← mb; let x ← res x; let y ← res y; lift (binF o x y))) := by
  cases o with
  | add => exact ee_op ha hb (r2_addI.or (r2_addS.or (r2_addT.or r2_addL))) fun ta tb h1 h2 => pe_op (op_add.or (op_add_str.or (op_catA.or op_cat))) h1 h2
  | sub => exact ee_op ha hb r2_subI fun ta tb h1 h2 => pe_op op_sub h1 h2
  | mul => exact ee_op ha hb (r2_mulI.or (r2_mulL.or (r2_mulT.or r2_mulT1))) fun ta tb h1 h2 => pe_op ((op_mul.or op_mulW).or (op_rep.or (op_repT.or HT.op_repT1))) h1 h2
  | fdiv => exact ee_op ha hb r2_fdivI fun ta tb h1 h2 => pe_op op_fdivW h1 h2
  | mod => exact ee_op ha hb r2_modI fun ta tb h1 h2 => pe_op op_mod h1 h2
  | pow => exact ee_op ha hb r2_powI fun ta tb h1 h2 => pe_op op_pow h1 h2
  | shl => exact ee_op ha hb (r := fun _ _ _ _ => False) (fun _ _ _ _ _ _ _ _ _ h => nomatch h) fun ta tb h1 h2 => pe_op (fun _ _ _ _ _ _ _ _ _ _ _ _ h => h.elim) h1 h2
  | shr => exact ee_op ha hb (r := fun _ _ _ _ => False) (fun _ _ _ _ _ _ _ _ _ h => nomatch h) fun ta tb h1 h2 => pe_op (fun _ _ _ _ _ _ _ _ _ _ _ _ h => h.elim) h1 h2
  | band => exact ee_op ha hb (r := fun _ _ _ _ => False) (fun _ _ _ _ _ _ _ _ _ h => nomatch h) fun ta tb h1 h2 => pe_op (fun _ _ _ _ _ _ _ _ _ _ _ _ h => h.elim) h1 h2
  | bor => exact ee_op ha hb (r := fun _ _ _ _ => False) (fun _ _ _ _ _ _ _ _ _ h => nomatch h) fun ta tb h1 h2 => pe_op (fun _ _ _ _ _ _ _ _ _ _ _ _ h => h.elim) h1 h2
end
end Ev

set_option Elab.async false
set_option linter.all false
set_option maxRecDepth 100000
set_option autoImplicit false
namespace Ev
open PySem PySem.Spec PyProof.Rows L2
open Classical
section
variable {F : Nat → Addr} {X : Cx} {B B' B1 B2 : Addr → Prop} {env env' env1 env2 : Env} {σ : L2.St} {H H' H1 H2 H3 : Hp} {v w : V} {x y o : Opd} {t : T} {e a b : Expr} {pos : Pos}
/-! ### data -/
mutual
theorem dat_dp : ∀ {t : T} {v : V} {n : Nat} {H : Hp}, t.dat n = true → Rp F X.K H t v → Dp X.K H v t.toD
  | .non, _, _, _, _, h => by simp only [Rp] at h; subst h; exact .non
  | .bl b, _, _, _, _, h => by simp only [Rp] at h; subst h; exact .bl b
  | .int i, _, _, _, _, h => by simp only [Rp] at h; subst h; exact .int i
  | .str s, _, _, _, _, h => by simp only [Rp] at h; subst h; exact .str s
  | .tup ts, _, _, _, d, h => by
    simp only [Rp] at h
    simp only [T.dat, Bool.and_eq_true] at d
    obtain ⟨a, vs, rfl, h1, h2, h3⟩ := h
    exact .tup (.inl (.inl h1)) (datL_dp d.2 h3)
  | .lst ts, _, _, _, d, h => by
    simp only [Rp] at h
    simp only [T.dat, Bool.and_eq_true] at d
    obtain ⟨a, vs, rfl, h1, h2, h3⟩ := h
    exact .lst (.inl (.inl h1)) (datL_dp d.2 h3)
  | .scr _, _, _, _, d, _ => by simp [T.dat] at d
  | .dic _, _, _, _, d, _ => by simp [T.dat] at d
  | .fn _, _, _, _, d, _ => by simp [T.dat] at d
theorem datL_dp : ∀ {ts : List T} {vs : List V} {n : Nat} {H : Hp}, datAll n ts = true → RpL F X.K H ts vs → DpAll X.K H vs (toDs ts)
  | [], _, _, _, _, h => by simp only [RpL] at h; subst h; exact .nil
  | t :: ts, _, _, _, d, h => by
    simp only [RpL] at h
    simp only [datAll, Bool.and_eq_true] at d
    obtain ⟨v, r, rfl, h1, h2⟩ := h
    exact .cons (dat_dp d.1 h1) (datL_dp d.2 h2)
end
mutual
theorem dat_lay : ∀ {t : T} {n : Nat}, t.dat n = true → t.toD.canLay0 = true ∧ t.toD.depth ≤ n
  | .non, n, _ => by simp [T.toD, PyData.canLay0, PyData.depth]
  | .bl b, n, _ => by simp [T.toD, PyData.canLay0, PyData.depth]
  | .int i, n, _ => by simp [T.toD, PyData.canLay0, PyData.depth]
  | .str s, n, d => by simp [T.toD, PyData.canLay0, PyData.depth]; simpa [T.dat] using d
  | .tup ts, n, d => by
    simp only [T.dat, Bool.and_eq_true, decide_eq_true_eq] at d
    have h := datL_lay d.2
    simp only [T.toD, PyData.canLay0, PyData.depth]
    exact ⟨h.1, by omega⟩
  | .lst ts, n, d => by
    simp only [T.dat, Bool.and_eq_true, decide_eq_true_eq] at d
    have h := datL_lay d.2
    simp only [T.toD, PyData.canLay0, PyData.depth]
    exact ⟨h.1, by omega⟩
  | .scr _, _, d => by simp [T.dat] at d
  | .dic _, _, d => by simp [T.dat] at d
  | .fn _, _, d => by simp [T.dat] at d
theorem datL_lay : ∀ {ts : List T} {n : Nat}, datAll n ts = true → PyData.canLayAll0 (toDs ts) = true ∧ PyData.depthAll (toDs ts) ≤ n
  | [], n, _ => by simp [toDs, PyData.canLayAll0, PyData.depthAll]
  | t :: ts, n, d => by
    simp only [datAll, Bool.and_eq_true] at d
    have h1 := dat_lay d.1
    have h2 := datL_lay d.2
    simp only [toDs, PyData.canLayAll0, PyData.depthAll, Bool.and_eq_true]
    exact ⟨⟨h1.1, h2.1⟩, by omega⟩
end
theorem dat_shaped {t : T} (d : t.dat 60 = true) : SeqAt.shaped t.toD = true := by
  have h := dat_lay d
  unfold SeqAt.shaped
  rw [h.1, Bool.true_and]
  exact decide_eq_true (by omega)
theorem vr_full {Hm : Hp} (e : Hle Hm H) (h : Vr F X.K Hm H t v) : Rp F X.K H t v := h.rp e
theorem toDs_any (x : T) : ∀ ys : List T, ((toDs ys).any fun z => PyData.eqv z x.toD) = ys.any fun y => y.eqv x
  | [] => by simp [toDs]
  | y :: ys => by simp only [toDs, List.any_cons, toDs_any x ys]; rfl
/-! ### comparisons by values -/
def R2B (F : Nat → Addr) (X : Cx) (f : T → T → Option Bool) (r : R2) : Prop :=
  ∀ (t u : T) (z : Bool) (Hm H : Hp) (v w : V) (Q : VK), Hle Hm H → f t u = some z → Vr F X.K Hm H t v → Vr F X.K Hm H u w → Q (.bl z) H → r v w H Q
theorem R2B.r2s {f : T → T → Option Bool} {r : R2} (h : R2B F X f r) : R2S F X (fun t u => (f t u).map fun z => (.bl z, false)) r := by
  intro t u z Hm H v w Q e hz hv hw q
  obtain ⟨k, hf, rfl⟩ := Option.map_eq_some_iff.mp hz
  exact h t u k Hm H v w Q e hf hv hw (q _ H (.flat (by simp [Rp]) e rfl))
theorem R2B.or {f g : T → T → Option Bool} {r r' : R2} (h : R2B F X f r) (h' : R2B F X g r') : R2B F X (fun t u => (f t u).or (g t u)) fun x y H Q => r x y H Q ∨ r' x y H Q := by
  intro t u z Hm H v w Q e hz hv hw q
  cases hf : f t u with
  | some k =>
    simp only [hf, Option.some_or] at hz; cases hz
    exact .inl (h t u _ Hm H v w Q e hf hv hw q)
  | none =>
    simp only [hf, Option.none_or] at hz
    exact .inr (h' t u z Hm H v w Q e hz hv hw q)
theorem r2b_int {g : Int → Int → Bool} : R2B F X (onIB g) (rI0 fun i j => .bl (g i j)) := by
  intro t u z Hm H v w Q e hz hv hw q
  unfold onIB at hz
  split at hz
  · rename_i i j
    cases hz
    have hv : v = .int i := hv
    have hw : w = .int j := hw
    subst hv hw
    exact ⟨i, j, rfl, rfl, q⟩
  · cases hz
theorem ints_vals {Hm : Hp} : ∀ {ts : List T} {ns : List Int} {vs : List V}, intsOf ts = some ns → RpL F X.K Hm ts vs → vs = ns.map V.int
  | [], ns, vs, h, r => by
    simp only [intsOf] at h; cases h
    simp only [RpL] at r; subst r; rfl
  | .int i :: ts, ns, vs, h, r => by
    simp only [intsOf] at h
    cases hq : intsOf ts with
    | none => rw [hq] at h; cases h
    | some ms =>
      rw [hq] at h; cases h
      simp only [RpL, Rp] at r
      obtain ⟨v, r', rfl, rfl, h2⟩ := r
      rw [ints_vals hq h2]; rfl
  | .non :: _, _, _, h, _ => by simp [intsOf] at h
  | .bl _ :: _, _, _, h, _ => by simp [intsOf] at h
  | .str _ :: _, _, _, h, _ => by simp [intsOf] at h
  | .tup _ :: _, _, _, h, _ => by simp [intsOf] at h
  | .lst _ :: _, _, _, h, _ => by simp [intsOf] at h
  | .scr _ :: _, _, _, h, _ => by simp [intsOf] at h
  | .dic _ :: _, _, _, h, _ => by simp [intsOf] at h
  | .fn _ :: _, _, _, h, _ => by simp [intsOf] at h
theorem r2b_ltTup : R2B F X ltTup (rLtT X.K) := by
  intro t u z Hm H v w Q e hz hv hw q
  unfold ltTup at hz
  split at hz
  · rename_i xs ys
    split at hz
    · rename_i ns ms h1 h2
      cases hz
      have hv : Rp F X.K Hm (.tup xs) v := hv
      have hw : Rp F X.K Hm (.tup ys) w := hw
      simp only [Rp] at hv hw
      obtain ⟨a, vs, rfl, a1, a2, a3⟩ := hv
      obtain ⟨b, ws, rfl, b1, b2, b3⟩ := hw
      have e1 := ints_vals h1 a3
      have e2 := ints_vals h2 b3
      subst e1 e2
      exact ⟨a, b, ns, ms, rfl, rfl, .inl (.inl (e _ _ a1)), .inl (.inl (e _ _ b1)), q⟩
    · cases hz
  · cases hz
theorem lexAt_drop (ns ms : List Int) : ∀ (k i : Nat), k = min (ns.length - i) (ms.length - i) → i ≤ ns.length → i ≤ ms.length →
    Ob.lexAt (fun j => decide (ns.getD j 0 = ms.getD j 0)) (fun j => decide (ns.getD j 0 ≤ ms.getD j 0)) (decide (ns.length ≤ ms.length)) i k = !HT.lexLt (ms.drop i) (ns.drop i)
  | 0, i, hk, h1, h2 => by
    rw [Ob.lexAt_zero]
    by_cases h : i = ns.length
    · subst h
      rw [List.drop_length, decide_eq_true (by omega)]
      cases ms.drop ns.length <;> rfl
    · have h3 : i = ms.length := by omega
      subst h3
      rw [List.drop_length, decide_eq_false (by omega), List.drop_eq_getElem_cons (by omega)]
      rfl
  | k + 1, i, hk, h1, h2 => by
    have l1 : i < ns.length := by omega
    have l2 : i < ms.length := by omega
    have g1 : ns.getD i 0 = ns[i] := by rw [List.getD_eq_getElem?_getD, List.getElem?_eq_getElem l1]; rfl
    have g2 : ms.getD i 0 = ms[i] := by rw [List.getD_eq_getElem?_getD, List.getElem?_eq_getElem l2]; rfl
    rw [Ob.lexAt_succ, lexAt_drop ns ms k (i + 1) (by omega) (by omega) (by omega), List.drop_eq_getElem_cons l1, List.drop_eq_getElem_cons l2, HT.lexLt_cons, g1, g2]
    by_cases e : ns[i] = ms[i]
    · rw [if_pos (decide_eq_true e), if_pos e.symm]
    · rw [if_neg (by rw [decide_eq_false e]; decide), if_neg (Ne.symm e)]
      by_cases q : ns[i] ≤ ms[i]
      · rw [decide_eq_true q, decide_eq_false (by omega)]; rfl
      · rw [decide_eq_false q, decide_eq_true (by omega)]; rfl
theorem r2b_leTup : R2B F X leTup (rLeT X.K) := by
  intro t u z Hm H v w Q e hz hv hw q
  unfold leTup at hz
  split at hz
  · rename_i xs ys
    split at hz
    · rename_i ns ms h1 h2
      cases hz
      have hv : Rp F X.K Hm (.tup xs) v := hv
      have hw : Rp F X.K Hm (.tup ys) w := hw
      simp only [Rp] at hv hw
      obtain ⟨a, vs, rfl, a1, a2, a3⟩ := hv
      obtain ⟨b, ws, rfl, b1, b2, b3⟩ := hw
      have e1 := ints_vals h1 a3
      have e2 := ints_vals h2 b3
      subst e1 e2
      refine ⟨a, b, ns, ms, rfl, rfl, .inl (.inl (e _ _ a1)), .inl (.inl (e _ _ b1)), ?_⟩
      rw [lexAt_drop ns ms _ 0 (by rw [Nat.sub_zero, Nat.sub_zero]) (Nat.zero_le _) (Nat.zero_le _), List.drop_zero, List.drop_zero]
      exact q
    · cases hz
  · cases hz
theorem r2b_eq : R2B F X eqT (rEqD X.K) := by
  intro t u z Hm H v w Q e hz hv hw q
  unfold eqT at hz
  split at hz
  · rename_i c
    cases hz
    rw [Bool.and_eq_true] at c
    exact ⟨_, _, dat_dp c.1 (vr_full e hv), dat_dp c.2 (vr_full e hw), dat_shaped c.1, dat_shaped c.2, q⟩
  · cases hz
theorem r2b_ne : R2B F X (fun a b => (eqT a b).map (!·)) (rNeD X.K) := by
  intro t u z Hm H v w Q e hz hv hw q
  obtain ⟨k, hf, rfl⟩ := Option.map_eq_some_iff.mp hz
  unfold eqT at hf
  split at hf
  · rename_i c
    cases hf
    rw [Bool.and_eq_true] at c
    exact ⟨_, _, dat_dp c.1 (vr_full e hv), dat_dp c.2 (vr_full e hw), dat_shaped c.1, dat_shaped c.2, q⟩
  · cases hf
def rInDT (K : PySem.W.Frag) (neg : Bool) : R2 := fun x y H Q => ∃ d ds, Dp K H x d ∧ Dp K H y (.tuple ds) ∧ SeqAt.shaped d = true ∧ PyData.canLayAll0 ds = true ∧ Q (.bl (if neg then !ds.any fun z => PyData.eqv z d else ds.any fun z => PyData.eqv z d)) H
theorem room_in {A : Around} {ds : List PyData} {d : PyData} (sd : SeqAt.shaped d = true) (hu : A.units + 65 < cLine) : A.units + 1 + min (PyData.depthAll ds) d.depth < cLine := by
  have h := SeqAt.depth_of_shaped sd
  omega
theorem op_inDT (hu : X.A.units + 65 < cLine) : OpR X (compareOp .In) (rInDT X.K false) := by
  intro pins s σ H x y v u Q I rx ry h
  obtain ⟨d, ds, hd, he, sd, se, q⟩ := h
  obtain ⟨as, r1⟩ := Dp.reads I d x v hd rx
  obtain ⟨bs, r2⟩ := Dp.reads I (.tuple ds) y u he ry
  exact SeqAt.in_tuple_reads r2 r1 se (SeqAt.canLay_of_shaped sd) (room_in sd hu) ⟨.bl _, H, I, rfl, q⟩
theorem op_notInDT (hu : X.A.units + 65 < cLine) : OpR X (compareOp .NotIn) (rInDT X.K true) := by
  intro pins s σ H x y v u Q I rx ry h
  obtain ⟨d, ds, hd, he, sd, se, q⟩ := h
  obtain ⟨as, r1⟩ := Dp.reads I d x v hd rx
  obtain ⟨bs, r2⟩ := Dp.reads I (.tuple ds) y u he ry
  exact SeqAt.notIn_tuple_reads r2 r1 se (SeqAt.canLay_of_shaped sd) (room_in sd hu) ⟨.bl _, H, I, rfl, q⟩
def rInDL (K : PySem.W.Frag) (neg : Bool) : R2 := fun x y H Q => ∃ d ds, Dp K H x d ∧ Dp K H y (.list ds) ∧ SeqAt.shaped d = true ∧ PyData.canLayAll0 ds = true ∧ Q (.bl (if neg then !ds.any fun z => PyData.eqv z d else ds.any fun z => PyData.eqv z d)) H
theorem op_inDL (hu : X.A.units + 65 < cLine) : OpR X (compareOp .In) (rInDL X.K false) := by
  intro pins s σ H x y v u Q I rx ry h
  obtain ⟨d, ds, hd, he, sd, se, q⟩ := h
  obtain ⟨as, r1⟩ := Dp.reads I d x v hd rx
  obtain ⟨bs, r2⟩ := Dp.reads I (.list ds) y u he ry
  exact SeqAt.in_list_reads r2 r1 se (SeqAt.canLay_of_shaped sd) (room_in sd hu) ⟨.bl _, H, I, rfl, q⟩
theorem op_notInDL (hu : X.A.units + 65 < cLine) : OpR X (compareOp .NotIn) (rInDL X.K true) := by
  intro pins s σ H x y v u Q I rx ry h
  obtain ⟨d, ds, hd, he, sd, se, q⟩ := h
  obtain ⟨as, r1⟩ := Dp.reads I d x v hd rx
  obtain ⟨bs, r2⟩ := Dp.reads I (.list ds) y u he ry
  exact SeqAt.notIn_list_reads r2 r1 se (SeqAt.canLay_of_shaped sd) (room_in sd hu) ⟨.bl _, H, I, rfl, q⟩
theorem inL_some {x : T} {ys : List T} {z : Bool} (h : inL x ys = some z) : x.dat 60 = true ∧ datAll 60 ys = true ∧ z = ys.any fun y => y.eqv x := by
  unfold inL at h
  split at h
  · rename_i c
    cases h
    rw [Bool.and_eq_true] at c
    exact ⟨c.1, c.2, rfl⟩
  · cases h
theorem in_tup_facts {Hm : Hp} {ys : List T} {u : T} {z : Bool} (e : Hle Hm H) (h : inL t ys = some z) (hu : u = .tup ys) (hv : Vr F X.K Hm H t v) (hw : Vr F X.K Hm H u w) :
    Dp X.K H v t.toD ∧ Dp X.K H w (.tuple (toDs ys)) ∧ SeqAt.shaped t.toD = true ∧ PyData.canLayAll0 (toDs ys) = true ∧ z = (toDs ys).any fun z => PyData.eqv z t.toD := by
  obtain ⟨c1, c2, c3⟩ := inL_some h
  subst hu
  have hw' := vr_full e hw
  simp only [Rp] at hw'
  obtain ⟨b, ws, rfl, k1, k2, k3⟩ := hw'
  exact ⟨dat_dp c1 (vr_full e hv), .tup (.inl (.inl k1)) (datL_dp c2 k3), dat_shaped c1, (datL_lay c2).1, by rw [toDs_any]; exact c3⟩
theorem in_lst_facts {Hm : Hp} {ys : List T} {u : T} {z : Bool} (e : Hle Hm H) (h : inL t ys = some z) (hu : u = .lst ys) (hv : Vr F X.K Hm H t v) (hw : Vr F X.K Hm H u w) :
    Dp X.K H v t.toD ∧ Dp X.K H w (.list (toDs ys)) ∧ SeqAt.shaped t.toD = true ∧ PyData.canLayAll0 (toDs ys) = true ∧ z = (toDs ys).any fun z => PyData.eqv z t.toD := by
  obtain ⟨c1, c2, c3⟩ := inL_some h
  subst hu
  have hw' := vr_full e hw
  simp only [Rp] at hw'
  obtain ⟨b, ws, rfl, k1, k2, k3⟩ := hw'
  exact ⟨dat_dp c1 (vr_full e hv), .lst (.inl (.inl k1)) (datL_dp c2 k3), dat_shaped c1, (datL_lay c2).1, by rw [toDs_any]; exact c3⟩
theorem r2b_inTup (neg : Bool) : R2B F X (fun a b => (inTup a b).map fun z => if neg then !z else z) (rInDT X.K neg) := by
  intro t u z Hm H v w Q e hz hv hw q
  obtain ⟨k, hf, rfl⟩ := Option.map_eq_some_iff.mp hz
  unfold inTup at hf
  split at hf
  · rename_i ys
    obtain ⟨h1, h2, h3, h4, h5⟩ := in_tup_facts e hf rfl hv hw
    exact ⟨_, _, h1, h2, h3, h4, by rw [← h5]; exact q⟩
  · cases hf
theorem r2b_inLst (neg : Bool) : R2B F X (fun a b => (inLst a b).map fun z => if neg then !z else z) (rInDL X.K neg) := by
  intro t u z Hm H v w Q e hz hv hw q
  obtain ⟨k, hf, rfl⟩ := Option.map_eq_some_iff.mp hz
  unfold inLst at hf
  split at hf
  · rename_i ys
    obtain ⟨h1, h2, h3, h4, h5⟩ := in_lst_facts e hf rfl hv hw
    exact ⟨_, _, h1, h2, h3, h4, by rw [← h5]; exact q⟩
  · cases hf
theorem R2B.congr {f g : T → T → Option Bool} {r : R2} (h : R2B F X f r) (e : ∀ a b, g a b = f a b) : R2B F X g r := fun t u z Hm H v w Q a hz => h t u z Hm H v w Q a (by rw [← e]; exact hz)
theorem r2b_in : R2B F X inT (fun x y H Q => rInDT X.K false x y H Q ∨ rInDL X.K false x y H Q) := ((r2b_inTup false).or (r2b_inLst false)).congr fun a b => by
  unfold inT
  cases inTup a b <;> cases inLst a b <;> rfl
theorem r2b_notin : R2B F X (fun a b => (inT a b).map (!·)) (fun x y H Q => rInDT X.K true x y H Q ∨ rInDL X.K true x y H Q) := ((r2b_inTup true).or (r2b_inLst true)).congr fun a b => by
  unfold inT
  cases inTup a b <;> cases inLst a b <;> rfl
theorem isN_val {Hm : Hp} {z : Bool} {u : T} (h : isN t u = some z) (hv : Vr F X.K Hm H t v) (hw : Vr F X.K Hm H u w) : w = .non ∧ z = decide (v = .non) := by
  unfold isN at h
  split at h
  · refine ⟨hw, ?_⟩
    cases t with
    | non => cases h; have hv : v = .non := hv; rw [hv]; simp
    | bl b => cases h; have hv : v = .bl b := hv; rw [hv]; simp
    | int b => cases h; have hv : v = .int b := hv; rw [hv]; simp
    | str b => cases h; have hv : v = .str b := hv; rw [hv]; simp
    | fn b => cases h; have hv : v = .ref (F b) := hv; rw [hv]; simp
    | tup ts => cases h; have hv : Rp F X.K Hm (.tup ts) v := hv; simp only [Rp] at hv; obtain ⟨a, vs, rfl, _⟩ := hv; simp
    | lst ts => cases h; obtain ⟨a, vs, rfl, _⟩ := hv; simp
    | scr ts => cases h; have hv : Rp F X.K Hm (.scr ts) v := hv; simp only [Rp] at hv; obtain ⟨a, vs, rfl, _⟩ := hv; simp
    | dic ts => have hv : Rp F X.K Hm (.dic ts) v := hv; simp only [Rp] at hv
  · cases h
theorem r2b_isN : R2B F X isN (fun x y H Q => y = .non ∧ Q (.bl (decide (x = .non))) H) := by
  intro t u z Hm H v w Q e hz hv hw q
  obtain ⟨h1, h2⟩ := isN_val hz hv hw
  exact ⟨h1, by rw [← h2]; exact q⟩
theorem r2b_isntN : R2B F X (fun a b => (isN a b).map (!·)) (fun x y H Q => y = .non ∧ Q (.bl (!decide (x = .non))) H) := by
  intro t u z Hm H v w Q e hz hv hw q
  obtain ⟨k, hf, rfl⟩ := Option.map_eq_some_iff.mp hz
  obtain ⟨h1, h2⟩ := isN_val hf hv hw
  exact ⟨h1, by rw [← h2]; exact q⟩
theorem r2b_isB : R2B F X isB (fun x y H Q => ∃ a b, x = .bl a ∧ y = .bl b ∧ Q (.bl (decide (a = b))) H) := by
  intro t u z Hm H v w Q e hz hv hw q
  unfold isB at hz
  split at hz
  · rename_i a b
    cases hz
    have hv : v = .bl a := hv
    have hw : w = .bl b := hw
    exact ⟨a, b, hv, hw, q⟩
  · cases hz
theorem r2b_isntB : R2B F X (fun a b => (isB a b).map (!·)) (fun x y H Q => ∃ a b, x = .bl a ∧ y = .bl b ∧ Q (.bl (!decide (a = b))) H) := by
  intro t u z Hm H v w Q e hz hv hw q
  obtain ⟨k, hf, rfl⟩ := Option.map_eq_some_iff.mp hz
  unfold isB at hf
  split at hf
  · rename_i a b
    cases hf
    have hv : v = .bl a := hv
    have hw : w = .bl b := hw
    exact ⟨a, b, hv, hw, q⟩
  · cases hf
def cmpOp : Cmp → CmpOp
  | .eq => .Eq | .ne => .NotEq | .lt => .Lt | .le => .LtE | .gt => .Gt | .ge => .GtE | .is => .Is | .isnt => .IsNot | .isin => .In | .notin => .NotIn
/-- every comparison has a rule that answers as cmpF -/
theorem cmp_rule (hu : X.A.units + 65 < cLine) (o : Cmp) : ∃ r, OpR X (compareOp (cmpOp o)) r ∧ R2B F X (cmpF o) r := by
  cases o with
  | eq => exact ⟨_, op_eqD (by omega), r2b_eq⟩
  | ne => exact ⟨_, op_neD (by omega), r2b_ne⟩
  | lt => exact ⟨_, op_lt.or (op_ltT (by omega)), r2b_int.or r2b_ltTup⟩
  | gt => exact ⟨_, op_gt, r2b_int⟩
  | le => exact ⟨_, op_le.or (op_leT (by omega)), r2b_int.or r2b_leTup⟩
  | ge => exact ⟨_, op_ge, r2b_int⟩
  | isin => exact ⟨_, (op_inDT hu).or (op_inDL hu), r2b_in⟩
  | notin => exact ⟨_, (op_notInDT hu).or (op_notInDL hu), r2b_notin⟩
  | is => exact ⟨_, op_isN.or op_is_bl, r2b_isN.or r2b_isB⟩
  | isnt => exact ⟨_, op_notN.or op_isnot_bl, (r2b_isntN.or r2b_isntB).congr fun a b => by
      show (isT a b).map (!·) = _
      unfold isT
      cases isN a b <;> cases isB a b <;> rfl⟩
end
end Ev

set_option Elab.async false
set_option linter.all false
set_option maxRecDepth 100000
set_option autoImplicit false
namespace Ev
open PySem PySem.Spec PyProof.Rows L2
open Classical
section
variable {F : Nat → Addr} {X : Cx} {B B' B1 B2 : Addr → Prop} {env env' env1 env2 : Env} {σ : L2.St} {H H' H1 H2 H3 : Hp} {v w : V} {x y o : Opd} {t : T} {e a b c : Expr} {pos : Pos} {rest : List Expr}
theorem isEmpty_len {α β : Type} {xs : List α} {ys : List β} (h : xs.length = ys.length) : xs.isEmpty = ys.isEmpty := by
  cases xs <;> cases ys <;> simp_all
theorem tru_vr {Hm : Hp} {k : Bool} (e : Hle Hm H) (h : truT t = some k) (hv : Vr F X.K Hm H t v) : TruV X.K v H k := by
  unfold truT at h
  cases t with
  | non => cases h; have hv : v = .non := hv; subst hv; rfl
  | bl b => have h : some b = some k := h; have hv : v = .bl b := hv; subst hv; cases h; rfl
  | int i => cases h; have hv : v = .int i := hv; subst hv; rfl
  | str s =>
    have hv : v = .str s := hv
    subst hv
    simp only at h
    split at h
    · rename_i c; cases h; exact ⟨Nat.le_trans c lim_line, rfl⟩
    · cases h
  | tup ts =>
    cases h
    have hv : Rp F X.K Hm (.tup ts) v := hv
    simp only [Rp] at hv
    obtain ⟨a, vs, rfl, h1, h2, h3⟩ := hv
    exact .inr (.inl ⟨vs, .inl (.inl (e _ _ h1)), by rw [isEmpty_len h3.len]⟩)
  | lst ts =>
    cases h
    obtain ⟨a, vs, rfl, h1, h2, h3⟩ := hv
    exact .inl ⟨vs, .inl (.inl h1), by rw [isEmpty_len h3.len]⟩
  | scr ts =>
    cases h
    have hv : Rp F X.K Hm (.scr ts) v := hv
    simp only [Rp] at hv
    obtain ⟨a, vs, rfl, h1, h2, h3⟩ := hv
    exact .inl ⟨vs, SqL.le e h1, by rw [isEmpty_len h3.len]⟩
  | dic ts => cases h
  | fn ts => cases h
/-! ### one operand -/
theorem one {ma : M Opd} {R : V → Hp → Prop} (S : Sim F X.K B env σ H) (ha : ma env = .ok x env1)
    (k : ∀ v H1 B1, Frm env σ H H1 → Le env env1 → Ext B B1 H → Sim F X.K B1 env1 σ H1 → OpdR F X.K (mask (MK B1 env1 σ) H1) H1 σ B1 x v → R v H1) : fO F X.K ma σ H R :=
  ⟨B, env, S, x, env1, ha, fun v H1 ⟨f1, l1, B1, e1, S1, r1, _⟩ => k v H1 B1 f1 l1 e1 S1 r1⟩
theorem et_truth {m : M (T × Bool)} (h : PE X e (fE F X.K m)) (he : ∀ whole, isTrue e X.env whole = (do let v ← whole; standAt e.pos; holding [v] (truthy v))) :
    PT X e (fT F X.K (do let (x, _) ← m; lift (truT x))) := by
  refine (pt_truth h he).imp fun σ H Q ⟨B, env, S, k, env', h0, q⟩ => ?_
  obtain ⟨r, env1, a1, b1⟩ := bind_ok.mp h0
  obtain ⟨a2, rfl⟩ := lift_ok.mp b1
  refine ⟨B, env, S, r, _, a1, fun v H' p => ?_⟩
  obtain ⟨f, l, B', e', S', rp, _⟩ := p.val S (opd_cases r)
  exact ⟨k, tru_vr mask_le a2 (Rp.vr mask_le rp), q H' ⟨f, l, S'.less e'.1⟩⟩
theorem et_var {i : Nat} (h : PE X e (tVar i)) (he : ∀ whole, isTrue e X.env whole = (do let v ← whole; standAt e.pos; holding [v] (truthy v))) :
    PT X e (fT F X.K (do let x ← peek i; lift (truT x))) := by
  refine (pt_truth h he).imp fun σ H Q ⟨B, env, S, k, env', h0, q⟩ => ?_
  obtain ⟨t, env1, a1, b1⟩ := bind_ok.mp h0
  obtain ⟨a2, rfl⟩ := lift_ok.mp b1
  have a3 := a1
  obtain ⟨rfl, s, e1, e2, e3⟩ := peek_ok.mp a3
  have : ∃ v, σ[i]? = some (some v) := by
    cases s with
    | un => exact absurd rfl e2
    | sh u => obtain ⟨v, z, _⟩ := S.sh i u e1; exact ⟨v, z⟩
    | ow u => obtain ⟨a, z, _⟩ := S.ow i _ e1 trivial; exact ⟨_, z⟩
    | io u => obtain ⟨a, z, _⟩ := S.ow i _ e1 trivial; exact ⟨_, z⟩
  obtain ⟨v, hv⟩ := this
  have hr : OpdR F X.K (mask (MK B env σ) H) H σ B (.slot i) v := hv
  obtain ⟨_, vr⟩ := hr.vr S (t := t) (env' := env) a1
  exact ⟨v, hv, k, tru_vr mask_le a2 vr, q H ⟨.refl, .refl, S⟩⟩
theorem ee_cmp {op : Cmp} {ma mb : M Opd} (hu : X.A.units + 65 < cLine) (hm : behindInMarks (cmpOp op) b = false) (ha : PE X a (fO F X.K ma)) (hb : PE X b (fO F X.K mb)) :
    PE X (.Compare a [cmpOp op] [b] pos) (fE F X.K (do let x ← ma; let y ← mb; let x ← res x; let y ← res y; lift ((cmpF op x y).map fun z => (.bl z, false)))) := by
  obtain ⟨r, h1, h2⟩ := cmp_rule (F := F) (X := X) hu op
  exact ee_op ha hb h2.r2s fun ta tb k1 k2 => pe_cmpR h1 k1 k2 hm
theorem et_cmp {op : Cmp} {ma mb : M Opd} (hu : X.A.units + 65 < cLine) (hm : behindInMarks (cmpOp op) b = false) (ha : PE X a (fO F X.K ma)) (hb : PE X b (fO F X.K mb)) :
    PT X (.Compare a [cmpOp op] [b] pos) (fT F X.K (do let (x, _) ← (do let x ← ma; let y ← mb; let x ← res x; let y ← res y; lift ((cmpF op x y).map fun z => (.bl z, false))); lift (truT x))) := by
  obtain ⟨r, h1, h2⟩ := cmp_rule (F := F) (X := X) hu op
  refine (pt_cmpR h1 ha hb hm).imp fun σ H Q ⟨B, env, S, k, env', h0, q⟩ => ?_
  obtain ⟨r0, env0, a0, b0⟩ := bind_ok.mp h0
  obtain ⟨x, env1, a1, b1⟩ := bind_ok.mp a0
  obtain ⟨y, env2, a2, b2⟩ := bind_ok.mp b1
  obtain ⟨t, env3, a3, b3⟩ := bind_ok.mp b2
  obtain ⟨u, env4, a4, b4⟩ := bind_ok.mp b3
  obtain ⟨a5, rfl⟩ := lift_ok.mp b4
  obtain ⟨z, a6, rfl⟩ := Option.map_eq_some_iff.mp a5
  obtain ⟨a7, rfl⟩ := lift_ok.mp b0
  cases a7
  refine two S a1 a2 fun v w H2 B2 f2 l2 e2 S2 rx ry => ?_
  obtain ⟨rfl, vx⟩ := rx.vr S2 a3
  obtain ⟨rfl, vy⟩ := ry.vr S2 a4
  exact h2 t u _ _ H2 v w _ mask_le a6 vx vy ⟨_, rfl, q H2 ⟨f2, l2, S2.less e2.1⟩⟩
/-- three in a chain -/
def chainM (o o' : Cmp) (ma mb mc : M Opd) : M (T × Bool) := do
    let x ← ma
    let y ← mb
    let x ← res x
    let y1 ← res y
    let z ← lift (cmpF o x y1)
    if z then do
      let w ← mc
      let y2 ← res y
      let w ← res w
      let z ← lift (cmpF o' y2 w)
      M.pure (.bl z, false)
    else M.pure (.bl false, false)
theorem chain_core {o o' : Cmp} {ma mb mc : M Opd} {r r' : R2} (h1 : R2B F X (cmpF o) r) (h2 : R2B F X (cmpF o') r') {Q : VK} {z : T × Bool} (S : Sim F X.K B env σ H) (h0 : chainM o o' ma mb mc env = .ok z env')
    (q : ∃ k, z = (.bl k, false) ∧ ∀ H', Frm env σ H H' ∧ Le env env' ∧ Sim F X.K B env' σ H' → Q (.bl k) H') : tChain r r' (fO F X.K ma) (fO F X.K mb) (fO F X.K mc) σ H Q := by
  obtain ⟨k, rfl, q⟩ := q
  obtain ⟨x, env1, a1, b1⟩ := bind_ok.mp h0
  obtain ⟨y, env2, a2, b2⟩ := bind_ok.mp b1
  obtain ⟨t, env3, a3, b3⟩ := bind_ok.mp b2
  obtain ⟨u, env4, a4, b4⟩ := bind_ok.mp b3
  obtain ⟨z1, env5, a5, b5⟩ := bind_ok.mp b4
  obtain ⟨c5, rfl⟩ := lift_ok.mp a5
  refine two S a1 a2 fun v w H2 B2 f2 l2 e2 S2 rx ry => ?_
  obtain ⟨rfl, vx⟩ := rx.vr S2 a3
  obtain ⟨rfl, vy⟩ := ry.vr S2 a4
  refine h1 t u z1 _ H2 v w _ mask_le c5 vx vy ⟨z1, rfl, ?_⟩
  cases z1 with
  | false =>
    rw [if_neg Bool.false_ne_true] at b5 ⊢
    obtain ⟨h, rfl⟩ := pure_ok.mp b5
    cases h
    exact q H2 ⟨f2, l2, S2.less e2.1⟩
  | true =>
    rw [if_pos rfl] at b5 ⊢
    obtain ⟨w3, env6, a6, b6⟩ := bind_ok.mp b5
    obtain ⟨u2, env7, a7, b7⟩ := bind_ok.mp b6
    obtain ⟨t3, env8, a8, b8⟩ := bind_ok.mp b7
    obtain ⟨z2, env9, a9, b9⟩ := bind_ok.mp b8
    obtain ⟨c9, rfl⟩ := lift_ok.mp a9
    obtain ⟨h, rfl⟩ := pure_ok.mp b9
    cases h
    refine one S2 a6 fun v3 H3 B3 f3 l3 e3 S3 r3 => ?_
    have ry3 := ry.step S2 l3 f3 e3
    obtain ⟨rfl, vy3⟩ := ry3.vr S3 a7
    obtain ⟨rfl, vw3⟩ := r3.vr S3 a8
    exact h2 u2 t3 _ _ H3 _ _ _ mask_le c9 vy3 vw3 (q H3 ⟨f2.trans l2 f3, l2.trans l3, S3.less fun a h => e3.1 a (e2.1 a h)⟩)
theorem chainM_bl {o o' : Cmp} {ma mb mc : M Opd} {z : T × Bool} (h0 : chainM o o' ma mb mc env = .ok z env') : ∃ k, z = (.bl k, false) := by
  obtain ⟨x, env1, a1, b1⟩ := bind_ok.mp h0
  obtain ⟨y, env2, a2, b2⟩ := bind_ok.mp b1
  obtain ⟨t, env3, a3, b3⟩ := bind_ok.mp b2
  obtain ⟨u, env4, a4, b4⟩ := bind_ok.mp b3
  obtain ⟨z1, env5, a5, b5⟩ := bind_ok.mp b4
  cases z1 with
  | false => obtain ⟨h, _⟩ := pure_ok.mp b5; exact ⟨_, h.symm⟩
  | true =>
    obtain ⟨w3, env6, a6, b6⟩ := bind_ok.mp b5
    obtain ⟨u2, env7, a7, b7⟩ := bind_ok.mp b6
    obtain ⟨t3, env8, a8, b8⟩ := bind_ok.mp b7
    obtain ⟨z2, env9, a9, b9⟩ := bind_ok.mp b8
    obtain ⟨h, _⟩ := pure_ok.mp b9
    exact ⟨_, h.symm⟩
theorem ee_chn {o o' : Cmp} {ma mb mc : M Opd} (hu : X.A.units + 65 < cLine) (hm : lastMarks [cmpOp o, cmpOp o'] [b, c] = false) (ha : PE X a (fO F X.K ma)) (hb : PE X b (fO F X.K mb)) (hc : PE X c (fO F X.K mc)) :
    PE X (.Compare a [cmpOp o, cmpOp o'] [b, c] pos) (fE F X.K (chainM o o' ma mb mc)) := by
  obtain ⟨r, h1, h2⟩ := cmp_rule (F := F) (X := X) hu o
  obtain ⟨r', h1', h2'⟩ := cmp_rule (F := F) (X := X) hu o'
  refine (pe_chain h1 h1' ha hb hc hm).imp fun σ H Q ⟨B, env, S, z, env', h0, q⟩ => ?_
  obtain ⟨k, rfl⟩ := chainM_bl h0
  exact chain_core h2 h2' S h0 ⟨k, rfl, fun H' ⟨f, l, S'⟩ => q _ H' (by
    have : opd (T.bl k, false) = .val (.bl k) := rfl
    rw [this]; exact .mk f l S' (by simp [Rp]))⟩
theorem et_chn {o o' : Cmp} {ma mb mc : M Opd} (hu : X.A.units + 65 < cLine) (hm : lastMarks [cmpOp o, cmpOp o'] [b, c] = false) (ha : PE X a (fO F X.K ma)) (hb : PE X b (fO F X.K mb)) (hc : PE X c (fO F X.K mc)) :
    PT X (.Compare a [cmpOp o, cmpOp o'] [b, c] pos) (fT F X.K (do let (x, _) ← chainM o o' ma mb mc; lift (truT x))) := by
  obtain ⟨r, h1, h2⟩ := cmp_rule (F := F) (X := X) hu o
  obtain ⟨r', h1', h2'⟩ := cmp_rule (F := F) (X := X) hu o'
  refine (pt_chain h1 h1' ha hb hc hm).imp fun σ H Q ⟨B, env, S, k, env', h0, q⟩ => ?_
  obtain ⟨z, env1, a1, b1⟩ := bind_ok.mp h0
  obtain ⟨k', rfl⟩ := chainM_bl a1
  obtain ⟨a2, rfl⟩ := lift_ok.mp b1
  cases a2
  exact chain_core h2 h2' S a1 ⟨k, rfl, fun H' p => ⟨k, rfl, q H' p⟩⟩
/-! ### and, or, not, if -/
theorem et_not {m : M Bool} (h : PT X a (fT F X.K m)) : PT X (.UnaryOp .Not a pos) (fT F X.K (do let b ← m; M.pure (!b))) := by
  refine (pt_not h).imp fun σ H Q ⟨B, env, S, k, env', h0, q⟩ => ?_
  obtain ⟨z, env1, a1, b1⟩ := bind_ok.mp h0
  obtain ⟨rfl, rfl⟩ := pure_ok.mp b1
  exact ⟨B, env, S, z, _, a1, fun H' p => q H' p⟩
theorem PW.imp {e : Expr} {t t' : TT} (h : PW X e t) (i : ∀ σ H Q, t' σ H Q → t σ H Q) : PW X e t' := ⟨fun wh pins s σ H Q I q => h.run wh pins s σ H Q I (i σ H Q q)⟩
theorem ew_and {ma mb : M Bool} (ha : PT X a (fT F X.K ma)) (hb : PW X (.BoolOp .And (b :: rest) pos) (fT F X.K mb)) :
    PW X (.BoolOp .And (a :: b :: rest) pos) (fT F X.K (do let c ← ma; if c then mb else M.pure false)) := by
  refine PW.imp (pw_and ha hb) fun σ H Q ⟨B, env, S, k, env', h0, q⟩ => ?_
  obtain ⟨z, env1, a1, b1⟩ := bind_ok.mp h0
  refine ⟨B, env, S, z, _, a1, fun H1 ⟨f1, l1, S1⟩ => ?_⟩
  cases z with
  | true => exact ⟨B, env1, S1, k, env', b1, fun H' ⟨f, l, S'⟩ => q H' ⟨f1.trans l1 f, l1.trans l, S'⟩⟩
  | false =>
    obtain ⟨rfl, rfl⟩ := pure_ok.mp b1
    exact q H1 ⟨f1, l1, S1⟩
theorem ew_or {ma mb : M Bool} (ha : PT X a (fT F X.K ma)) (hb : PW X (.BoolOp .Or (b :: rest) pos) (fT F X.K mb)) :
    PW X (.BoolOp .Or (a :: b :: rest) pos) (fT F X.K (do let c ← ma; if c then M.pure true else mb)) := by
  refine PW.imp (pw_or ha hb) fun σ H Q ⟨B, env, S, k, env', h0, q⟩ => ?_
  obtain ⟨z, env1, a1, b1⟩ := bind_ok.mp h0
  refine ⟨B, env, S, z, _, a1, fun H1 ⟨f1, l1, S1⟩ => ?_⟩
  cases z with
  | false => exact ⟨B, env1, S1, k, env', b1, fun H' ⟨f, l, S'⟩ => q H' ⟨f1.trans l1 f, l1.trans l, S'⟩⟩
  | true =>
    obtain ⟨rfl, rfl⟩ := pure_ok.mp b1
    exact q H1 ⟨f1, l1, S1⟩
theorem et_ite {mc ma mb : M Bool} (hc : PT X c (fT F X.K mc)) (ha : PT X a (fT F X.K ma)) (hb : PT X b (fT F X.K mb)) : PT X (.IfExp c a b pos) (fT F X.K (do let t ← mc; if t then ma else mb)) := by
  refine ⟨fun pins s σ H Q I ⟨B, env, S, k, env', h0, q⟩ => ?_⟩
  obtain ⟨z, env1, a1, b1⟩ := bind_ok.mp h0
  show wpAny _ _ (do if ← isTrue c X.env (eval c X.env) then isTrue a X.env (eval a X.env) else isTrue b X.env (eval b X.env)) _ _ s
  refine wpAny_bind (thn (hc.run pins s σ H (fun d H1 => d = z ∧ Frm env σ H H1 ∧ Le env env1 ∧ Sim F X.K B env1 σ H1) I ⟨B, env, S, z, env1, a1, fun H1 p => ⟨rfl, p⟩⟩) fun d s1 ⟨H1, I1, hd, f1, l1, S1⟩ => ?_)
  subst hd
  cases d with
  | true => exact ha.run pins s1 σ H1 Q I1 ⟨B, env1, S1, k, env', b1, fun H' ⟨f, l, S'⟩ => q H' ⟨f1.trans l1 f, l1.trans l, S'⟩⟩
  | false => exact hb.run pins s1 σ H1 Q I1 ⟨B, env1, S1, k, env', b1, fun H' ⟨f, l, S'⟩ => q H' ⟨f1.trans l1 f, l1.trans l, S'⟩⟩
/-- an answer behind a first part -/
theorem Pst.trans {K : PySem.W.Frag} (f1 : Frm env σ H H1) (l1 : Le env env1) (h : Pst F K B env1 env2 σ H1 o v H2) : Pst F K B env env2 σ H o v H2 := by
  obtain ⟨f, l, B', e, S, r, hn⟩ := h
  exact ⟨f1.trans l1 f, l1.trans l, B', ⟨e.1, fun a z => (e.2 a z).elim .inl fun z => .inr (f1.lost a z)⟩, S, r, fun t q => by
    obtain ⟨a, h1, h2⟩ := hn t q
    exact ⟨a, h1, f1.lost a h2⟩⟩
theorem ee_and {ma mb : M (T × Bool)} (ha : PE X a (fE F X.K ma)) (hb : PE X (.BoolOp .And (b :: rest) pos) (fE F X.K mb)) :
    PE X (.BoolOp .And (a :: b :: rest) pos) (fE F X.K (do let (x, _) ← ma; let c ← lift (truT x); if c then mb else M.pure (x, false))) := by
  refine (pe_andT ha hb).imp fun σ H Q ⟨B, env, S, r, env', h0, q⟩ => ?_
  obtain ⟨z, env1, a1, b1⟩ := bind_ok.mp h0
  obtain ⟨k, env2, a2, b2⟩ := bind_ok.mp b1
  obtain ⟨c2, rfl⟩ := lift_ok.mp a2
  refine ⟨B, env, S, z, _, a1, fun v H1 p => ?_⟩
  have p' := p.val S (opd_cases z)
  have p2 := p'
  obtain ⟨f1, l1, B1, e1, S1, r1, _⟩ := p2
  refine ⟨k, tru_vr mask_le c2 (Rp.vr mask_le r1), ?_⟩
  cases k with
  | true => exact ⟨B, _, S1.less e1.1, r, env', b2, fun v' H' p2 => q v' H' (p2.trans f1 l1)⟩
  | false =>
    obtain ⟨rfl, rfl⟩ := pure_ok.mp b2
    exact q v H1 p'
theorem ee_or {ma mb : M (T × Bool)} (ha : PE X a (fE F X.K ma)) (hb : PE X (.BoolOp .Or (b :: rest) pos) (fE F X.K mb)) :
    PE X (.BoolOp .Or (a :: b :: rest) pos) (fE F X.K (do let (x, _) ← ma; let c ← lift (truT x); if c then M.pure (x, false) else mb)) := by
  refine (pe_orT ha hb).imp fun σ H Q ⟨B, env, S, r, env', h0, q⟩ => ?_
  obtain ⟨z, env1, a1, b1⟩ := bind_ok.mp h0
  obtain ⟨k, env2, a2, b2⟩ := bind_ok.mp b1
  obtain ⟨c2, rfl⟩ := lift_ok.mp a2
  refine ⟨B, env, S, z, _, a1, fun v H1 p => ?_⟩
  have p' := p.val S (opd_cases z)
  have p2 := p'
  obtain ⟨f1, l1, B1, e1, S1, r1, _⟩ := p2
  refine ⟨k, tru_vr mask_le c2 (Rp.vr mask_le r1), ?_⟩
  cases k with
  | false => exact ⟨B, _, S1.less e1.1, r, env', b2, fun v' H' p2 => q v' H' (p2.trans f1 l1)⟩
  | true =>
    obtain ⟨rfl, rfl⟩ := pure_ok.mp b2
    exact q v H1 p'
theorem ee_ite {mc : M Bool} {ma mb : M (T × Bool)} (hc : PT X c (fT F X.K mc)) (ha : PE X a (fE F X.K ma)) (hb : PE X b (fE F X.K mb)) : PE X (.IfExp c a b pos) (fE F X.K (do let t ← mc; if t then ma else mb)) := by
  refine (pe_ifExp hc ha hb).imp fun σ H Q ⟨B, env, S, r, env', h0, q⟩ => ?_
  obtain ⟨z, env1, a1, b1⟩ := bind_ok.mp h0
  refine ⟨B, env, S, z, _, a1, fun H1 ⟨f1, l1, S1⟩ => ?_⟩
  cases z with
  | true => exact ⟨B, env1, S1, r, env', b1, fun v H' p => q v H' (p.trans f1 l1)⟩
  | false => exact ⟨B, env1, S1, r, env', b1, fun v H' p => q v H' (p.trans f1 l1)⟩
theorem ee_not {ma : M Opd} (ha : PE X a (fO F X.K ma)) : PE X (.UnaryOp .Not a pos) (fE F X.K (do let x ← ma; let x ← res x; let b ← lift (truT x); M.pure (.bl (!b), false))) := by
  refine (pe_notT ha).imp fun σ H Q ⟨B, env, S, r, env', h0, q⟩ => ?_
  obtain ⟨x, env1, a1, b1⟩ := bind_ok.mp h0
  obtain ⟨t, env2, a2, b2⟩ := bind_ok.mp b1
  obtain ⟨k, env3, a3, b3⟩ := bind_ok.mp b2
  obtain ⟨c3, rfl⟩ := lift_ok.mp a3
  obtain ⟨rfl, rfl⟩ := pure_ok.mp b3
  refine one S a1 fun v H1 B1 f1 l1 e1 S1 r1 => ?_
  obtain ⟨rfl, vx⟩ := r1.vr S1 a2
  exact ⟨k, tru_vr mask_le c3 vx, q _ H1 (.mk f1 l1 (S1.less e1.1) (by simp [Rp]))⟩
theorem ee_neg {ma : M Opd} (ha : PE X a (fO F X.K ma)) : PE X (.UnaryOp .USub a pos) (fE F X.K (do let x ← ma; let x ← res x; let i ← lift (asInt x); M.pure (.int (-i), false))) := by
  refine (pe_un un_neg ha).imp fun σ H Q ⟨B, env, S, r, env', h0, q⟩ => ?_
  obtain ⟨x, env1, a1, b1⟩ := bind_ok.mp h0
  obtain ⟨t, env2, a2, b2⟩ := bind_ok.mp b1
  obtain ⟨k, env3, a3, b3⟩ := bind_ok.mp b2
  obtain ⟨c3, rfl⟩ := lift_ok.mp a3
  obtain ⟨rfl, rfl⟩ := pure_ok.mp b3
  refine one S a1 fun v H1 B1 f1 l1 e1 S1 r1 => ?_
  obtain ⟨rfl, vx⟩ := r1.vr S1 a2
  cases t with
  | int i => cases c3; exact ⟨k, vx, q _ H1 (.mk f1 l1 (S1.less e1.1) (by simp [Rp]))⟩
  | _ => cases c3
/-! ### displays -/
theorem ea_nil : PA X [] (fL F X.K (M.pure [])) := pa_nil.imp fun σ H Q ⟨B, env, S, r, env', h0, q⟩ => by
  obtain ⟨rfl, rfl⟩ := pure_ok.mp h0
  exact q [] H ⟨.refl, .refl, S, RpL.nil⟩
theorem ea_cons {es : List Expr} {m : M (T × Bool)} {ms : M (List T)} (hs : starEach (e :: es) X.env = (false, eval e X.env) :: starEach es X.env) (h : PE X e (fE F X.K m)) (hr : PA X es (fL F X.K ms)) :
    PA X (e :: es) (fL F X.K (do let (t, _) ← m; let ts ← ms; M.pure (t :: ts))) := by
  refine (pa_cons h hr hs).imp fun σ H Q ⟨B, env, S, r, env', h0, q⟩ => ?_
  obtain ⟨z, env1, a1, b1⟩ := bind_ok.mp h0
  obtain ⟨ts, env2, a2, b2⟩ := bind_ok.mp b1
  obtain ⟨rfl, rfl⟩ := pure_ok.mp b2
  refine ⟨B, env, S, z, _, a1, fun v H1 p => ?_⟩
  obtain ⟨f1, l1, B1, e1, S1, r1, _⟩ := p.val S (opd_cases z)
  refine ⟨B, _, S1.less e1.1, ts, _, a2, fun vs H2 ⟨f2, l2, S2, r2⟩ => ?_⟩
  exact q (v :: vs) H2 ⟨f1.trans l1 f2, l1.trans l2, S2, .cons (Rp.le ((mask_B e1.1).trans (mask_frm l2 f2)) r1) r2⟩
theorem starEach_cons {es : List Expr} {env : PySem.Env} (h : ∀ x p, e ≠ .Starred x p) : starEach (e :: es) env = (false, eval e env) :: starEach es env := by
  cases e with
  | Starred x p => exact absurd rfl (h x p)
  | _ => rfl
theorem ee_tup {es : List Expr} {ms : M (List T)} {k : Nat} (hl : ∀ env ts env', ms env = .ok ts env' → ts.length ≤ LIM) (h : PA X es (fL F X.K ms)) : PE X (.Tuple es k pos) (fE F X.K (do let ts ← ms; M.pure (.tup ts, false))) := by
  refine (pe_tup h).imp fun σ H Q ⟨B, env, S, r, env', h0, q⟩ => ?_
  obtain ⟨ts, env1, a1, b1⟩ := bind_ok.mp h0
  obtain ⟨rfl, rfl⟩ := pure_ok.mp b1
  refine ⟨B, env, S, ts, _, a1, fun vs H1 ⟨f1, l1, S1, r1⟩ => ?_⟩
  have hz : vs.length ≤ sizeLine := by rw [← r1.len]; exact Nat.le_trans (hl _ _ _ a1) lim_line
  exact ⟨hz, fun p hp => q _ _ ((NewR.tup (fr := false) r1 mask_le hp hz).po S S1 .refl f1 l1)⟩
theorem ee_lst {es : List Expr} {ms : M (List T)} (hl : ∀ env ts env', ms env = .ok ts env' → ts.length ≤ LIM) (h : PA X es (fL F X.K ms)) : PE X (.List es pos) (fE F X.K (do let ts ← ms; M.pure (.lst ts, true))) := by
  refine (pe_lst h).imp fun σ H Q ⟨B, env, S, r, env', h0, q⟩ => ?_
  obtain ⟨ts, env1, a1, b1⟩ := bind_ok.mp h0
  obtain ⟨rfl, rfl⟩ := pure_ok.mp b1
  refine ⟨B, env, S, ts, _, a1, fun vs H1 ⟨f1, l1, S1, r1⟩ => ?_⟩
  have hz : vs.length ≤ sizeLine := by rw [← r1.len]; exact Nat.le_trans (hl _ _ _ a1) lim_line
  exact ⟨hz, fun p hp => q _ _ ((NewR.lst r1 hp hz).po S S1 .refl f1 l1)⟩
/-! ### subscripts, slices -/
theorem atI_rp {Hm : Hp} {ts : List T} {vs : List V} {i : Int} {z : T} (r : RpL F X.K Hm ts vs) (h : L2.atI ts i = some z) : ∃ w, L2.atI vs i = some w ∧ Rp F X.K Hm z w := by
  unfold L2.atI at h ⊢
  rw [r.len] at h
  cases hk : L2.ixN vs.length i with
  | none => rw [hk] at h; cases h
  | some j =>
    rw [hk] at h
    obtain ⟨w, h1, h2⟩ := r.get (i := j) h
    exact ⟨w, h1, h2⟩
theorem r2_idx : R2S F X (fun t u => (idxT t u).map fun z => (z, false)) (fun x y H Q => rIxL X.K x y H Q ∨ rIxT X.K x y H Q) := by
  intro t u z Hm H v w Q e hz hv hw q
  obtain ⟨z', hf, rfl⟩ := Option.map_eq_some_iff.mp hz
  unfold idxT at hf
  split at hf
  · rename_i xs i
    have hv : Rp F X.K Hm (.tup xs) v := hv
    have hw : w = .int i := hw
    simp only [Rp] at hv
    obtain ⟨a, vs, rfl, h1, h2, h3⟩ := hv
    obtain ⟨x, k1, k2⟩ := atI_rp h3 hf
    exact .inr ⟨a, vs, i, x, rfl, hw, .inl (.inl (e _ _ h1)), k1, q _ _ (.old k2 e)⟩
  · rename_i xs i
    have hw : w = .int i := hw
    obtain ⟨a, vs, rfl, h1, h2, h3⟩ := hv
    obtain ⟨x, k1, k2⟩ := atI_rp h3 hf
    exact .inl ⟨a, vs, i, x, rfl, hw, .inl (.inl h1), k1, q _ _ (.old k2 e)⟩
  · rename_i xs i
    have hv : Rp F X.K Hm (.scr xs) v := hv
    have hw : w = .int i := hw
    simp only [Rp] at hv
    obtain ⟨a, vs, rfl, h1, h2, h3⟩ := hv
    obtain ⟨x, k1, k2⟩ := atI_rp h3 hf
    exact .inl ⟨a, vs, i, x, rfl, hw, SqL.le e h1, k1, q _ _ (.old k2 e)⟩
  · cases hf
theorem ee_idx {ma mb : M Opd} (hs : PlainIx b) (ha : PE X a (fO F X.K ma)) (hb : PE X b (fO F X.K mb)) :
    PE X (.Subscript a b pos) (fE F X.K (do let x ← ma; let y ← mb; let x ← res x; let y ← res y; lift ((idxT x y).map fun z => (z, false)))) :=
  ee_op ha hb r2_idx fun ta tb k1 k2 => pe_ix (ix_list.or ix_tup) k1 k2 hs
theorem plainIx_of (h : ∀ l u s p, b ≠ .Slice l u s p) : PlainIx b := by
  intro o i
  cases b with
  | Slice l u s p => exact absurd rfl (h l u s p)
  | _ => rfl
def fI (F : Nat → Addr) (K : PySem.W.Frag) (m : M (Option Int)) : TO := fun σ H Q => ∃ B env, Sim F K B env σ H ∧ ∃ i env', m env = .ok i env' ∧ ∀ H', Frm env σ H H' ∧ Le env env' ∧ (∃ B', Ext B B' H ∧ Sim F K B' env' σ H') → Q i H'
theorem _root_.L2.PO.imp {e : Option Expr} {t t' : TO} (h : L2.PO X e t) (i : ∀ σ H Q, t' σ H Q → t σ H Q) : L2.PO X e t' := ⟨fun pins s σ H Q I q => h.run pins s σ H Q I (i σ H Q q)⟩
theorem ei_none : L2.PO X none (fI F X.K (M.pure none)) := po_none.imp fun σ H Q ⟨B, env, S, r, env', h0, q⟩ => by
  obtain ⟨rfl, rfl⟩ := pure_ok.mp h0
  exact q H ⟨.refl, .refl, B, .refl, S⟩
theorem ei_some {ma : M Opd} (h : PE X e (fO F X.K ma)) : L2.PO X (some e) (fI F X.K (do let x ← ma; let x ← res x; let i ← lift (asInt x); M.pure (some i))) := by
  refine (po_some h).imp fun σ H Q ⟨B, env, S, r, env', h0, q⟩ => ?_
  obtain ⟨x, env1, a1, b1⟩ := bind_ok.mp h0
  obtain ⟨t, env2, a2, b2⟩ := bind_ok.mp b1
  obtain ⟨k, env3, a3, b3⟩ := bind_ok.mp b2
  obtain ⟨c3, rfl⟩ := lift_ok.mp a3
  obtain ⟨rfl, rfl⟩ := pure_ok.mp b3
  refine one S a1 fun v H1 B1 f1 l1 e1 S1 r1 => ?_
  obtain ⟨rfl, vx⟩ := r1.vr S1 a2
  cases t with
  | int i => cases c3; exact ⟨k, vx, q H1 ⟨f1, l1, B1, e1, S1⟩⟩
  | _ => cases c3
theorem RpL.cut {Hm : Hp} {ts : List T} {vs : List V} (r : RpL F X.K Hm ts vs) (lo hi : Option Int) : RpL F X.K Hm (cutL ts lo hi) (cutV vs lo hi) := by
  unfold cutL cutV
  rw [r.len]
  exact (r.drop _).take _
theorem sIx_whole {n : Nat} {lo hi : Option Int} (h : HT.sIx n 0 lo = 0 ∧ HT.sIx n n hi = n) {α : Type} (xs : List α) (hn : xs.length = n) : (xs.drop (HT.sIx xs.length 0 lo)).take (HT.sIx xs.length xs.length hi - HT.sIx xs.length 0 lo) = xs := by
  subst hn
  rw [h.1, h.2]
  simp
theorem ee_slc {lo hi : Option Expr} {p2 : Pos} {ma : M Opd} {ml mh : M (Option Int)} (ha : PE X a (fO F X.K ma)) (hl : L2.PO X lo (fI F X.K ml)) (hh : L2.PO X hi (fI F X.K mh)) :
    PE X (.Subscript a (.Slice lo hi none p2) pos) (fE F X.K (do let x ← ma; let l ← ml; let h ← mh; let x ← res x; let z ← lift (slcT x l h); M.pure (z, true))) := by
  refine (pe_slice (sl_list.or sl_tupA) ha hl hh).imp fun σ H Q ⟨B, env, S, r, env', h0, q⟩ => ?_
  obtain ⟨x, env1, a1, b1⟩ := bind_ok.mp h0
  obtain ⟨l, env2, a2, b2⟩ := bind_ok.mp b1
  obtain ⟨h, env3, a3, b3⟩ := bind_ok.mp b2
  obtain ⟨t, env4, a4, b4⟩ := bind_ok.mp b3
  obtain ⟨z, env5, a5, b5⟩ := bind_ok.mp b4
  obtain ⟨c5, rfl⟩ := lift_ok.mp a5
  obtain ⟨rfl, rfl⟩ := pure_ok.mp b5
  refine one S a1 fun v H1 B1 f1 l1 e1 S1 r1 => ?_
  refine ⟨B1, env1, S1, l, env2, a2, fun H2 ⟨f2, l2, B2, e2, S2⟩ => ?_⟩
  refine ⟨B2, env2, S2, h, env3, a3, fun H3 ⟨f3, l3, B3, e3, S3⟩ => ?_⟩
  have rx := (r1.step S1 l2 f2 e2).step S2 l3 f3 e3
  obtain ⟨rfl, vx⟩ := rx.vr S3 a4
  have ff := (f1.trans l1 f2).trans (l1.trans l2) f3
  have ll := (l1.trans l2).trans l3
  have ee : Ext B B3 H := (e1.trans f1 e2).trans (f1.trans l1 f2) e3
  unfold slcT at c5
  split at c5
  · rename_i xs
    cases c5
    have vx' : Rp F X.K (mask (MK B3 env4 σ) H3) (.tup xs) v := vx
    have vx2 := vx'
    simp only [Rp] at vx2
    obtain ⟨a, vs, rfl, h1, h2, h3⟩ := vx2
    refine .inr ⟨a, vs, rfl, .inl (.inl (mask_le _ _ h1)), fun hw => ?_, fun hw p hp => ?_⟩
    · have e0 : cutL xs l h = xs := sIx_whole hw xs h3.len
      rw [e0] at q
      exact q _ _ ((NewR.flat vx' mask_le rfl).po S S3 ee ff ll)
    · exact q _ _ ((NewR.tup (h3.cut l h) mask_le hp (Nat.le_trans (cutV_length _ _ _) h2)).po S S3 ee ff ll)
  · rename_i xs
    cases c5
    obtain ⟨a, vs, rfl, h1, h2, h3⟩ := vx
    exact .inl ⟨a, vs, rfl, .inl (.inl h1), fun p hp => q _ _ ((NewR.lst (h3.cut l h) hp (Nat.le_trans (cutV_length _ _ _) h2)).po S S3 ee ff ll)⟩
  · rename_i xs
    cases c5
    have vx' : Rp F X.K (mask (MK B3 env4 σ) H3) (.scr xs) v := vx
    simp only [Rp] at vx'
    obtain ⟨a, vs, rfl, h1, h2, h3⟩ := vx'
    exact .inl ⟨a, vs, rfl, SqL.le mask_le h1, fun p hp => q _ _ ((NewR.lst (h3.cut l h) hp (Nat.le_trans (cutV_length _ _ _) h2)).po S S3 ee ff ll)⟩
  · cases c5
end
end Ev

set_option Elab.async false
set_option linter.all false
set_option maxRecDepth 100000
set_option maxHeartbeats 4000000
set_option autoImplicit false
/-! sorted(xs), xs tuples of ints of any lengths, of any number -/
namespace ItS
open PySem PyProof.Rows PySem.W SrtO
/-- v is a tuple of these ints -/
def IsI (h : Heap) (v : Value) (ns : List Int) : Prop := ∃ (a : Addr) (o : Obj) (items : Array Value) (n : Nat), v = .ref a ∧ h.get? a = some o ∧ o.cls = .type "tuple" ∧ o.data = .seq items n ∧ IntsAre items.toList ns
theorem IsI.keeps {h h' : Heap} {v : Value} {ns : List Int} (x : IsI h v ns) (k : ∀ b o, o.cls = .type "tuple" → h.get? b = some o → h'.get? b = some o) : IsI h' v ns := by
  obtain ⟨a, o, items, n, e, g, c, i⟩ := x
  exact ⟨a, o, items, n, e, k _ _ c g, c, i⟩
theorem IsI.type {M : Model} {h : Heap} {v : Value} {ns : List Int} (x : IsI h v ns) : Looks M h (typeOf v) (.type "tuple") := by
  obtain ⟨a, o, items, n, rfl, g, c, i⟩ := x
  rw [← c]
  exact (Looks.ld g).andThen .now
theorem lex_swo : Swo HT.lexLt := by
  have irr : ∀ a b : List Int, HT.lexLt a b = true → HT.lexLt b a = false := by
    intro a
    induction a with
    | nil => intro b; cases b <;> simp [HT.lexLt]
    | cons x xs ih =>
      intro b
      cases b with
      | nil => simp [HT.lexLt]
      | cons y ys =>
        simp only [HT.lexLt]
        by_cases e : x = y
        · subst e; simpa using ih ys
        · simp only [e, Ne.symm e, if_false, decide_eq_true_eq, decide_eq_false_iff_not]; omega
  have neg : ∀ a b c : List Int, HT.lexLt a b = false → HT.lexLt b c = false → HT.lexLt a c = false := by
    intro a
    induction a with
    | nil =>
      intro b c h1 h2
      cases b with
      | nil => exact h2
      | cons y ys => simp [HT.lexLt] at h1
    | cons x xs ih =>
      intro b c h1 h2
      cases c with
      | nil => simp [HT.lexLt]
      | cons z zs =>
        cases b with
        | nil => simp [HT.lexLt] at h2
        | cons y ys =>
          simp only [HT.lexLt] at h1 h2 ⊢
          by_cases e : x = y
          · subst e
            rw [if_pos rfl] at h1
            by_cases e2 : x = z
            · subst e2
              rw [if_pos rfl] at h2 ⊢
              exact ih ys zs h1 h2
            · rw [if_neg e2] at h2 ⊢; exact h2
          · rw [if_neg e] at h1
            have h1 : ¬ x < y := of_decide_eq_false h1
            by_cases e2 : y = z
            · subst e2
              rw [if_neg e]
              exact decide_eq_false h1
            · rw [if_neg e2] at h2
              have h2 : ¬ y < z := of_decide_eq_false h2
              rw [if_neg (by omega)]
              exact decide_eq_false (by omega)
  exact ⟨irr, fun x y z h1 h2 => neg z y x h2 h1⟩
section
variable {prog : Program} {w : World} {A : Around} {E : Value → Shared → Prop} {s : Shared}
theorem katLex_ints {b : Bool} {Q : Bool → Shared → Prop} : ∀ (ps qs : List Value) (ns ms : List Int) (i : Nat), IntsAre ps ns → IntsAre qs ms → Q (HT.lexLt ns ms) s → KatLex prog w A b (decide (ns.length < ms.length)) Q (ps.zip qs) i s
  | [], qs, ns, ms, i, hp, hq, h => by
    cases hp
    cases hq with
    | nil => exact h
    | cons x t r => exact h
  | p :: ps, [], ns, ms, i, hp, hq, h => by
    cases hq
    cases hp with
    | cons x t r => exact h
  | p :: ps, q :: qs, ns, ms, i, hp, hq, h => by
    cases hp with
    | cons x t r =>
      cases hq with
      | cons y u r2 =>
        rw [List.zip_cons_cons]
        refine kat_cons (SeqAt.EqAt.int_int x t y u prog w _ _ ?_)
        refine kat_go (fun e => ?_) (fun e => ?_)
        · have e : x = y := by simpa using e
          refine kat_yes ?_
          rw [HT.lexLt_cons, if_pos e] at h
          have := katLex_ints (b := b) ps qs _ _ (i + 1) r r2 h
          simpa using this
        · have e : ¬ x = y := by simpa using e
          rw [HT.lexLt_cons, if_neg e] at h
          refine kat_no ?_
          cases hb : (b && i == 0) with
          | true => exact oneLt_int h
          | false => exact kat_one _ _ (PyProof.Rows.lt_int h)
theorem ints_len : ∀ {vs : List Value} {ns : List Int}, IntsAre vs ns → vs.length = ns.length
  | _, _, .nil => rfl
  | _, _, .cons _ _ r => congrArg Nat.succ (ints_len r)
/-- by the tuples' items -/
theorem lt_tuples {v u : Value} {ns ms : List Int} {Q : Bool → Shared → Prop} (hv : IsI s.heap v ns) (hw : IsI s.heap u ms) (h : Q (HT.lexLt ns ms) s) : wpAny (model prog w) A (keyLt' (tuples' true) v u) Q E s := by
  obtain ⟨a, o, items, n, rfl, ho, hc, hd, hi⟩ := hv
  obtain ⟨a', o', items', n', rfl, ho', hc', hd', hi'⟩ := hw
  refine kat_lt ho hd ho' hd' ?_
  have e1 : items.size = ns.length := by rw [← ints_len hi]; simp
  have e2 : items'.size = ms.length := by rw [← ints_len hi']; simp
  rw [e1, e2]
  exact katLex_ints _ _ _ _ 0 hi hi' h
theorem call_ltT {a b : Addr} {dd dd2 : Option Addr} {items items2 : Array Value} {n n2 : Nat} {sl sl2 : Array (Option Value)} {ns ms : List Int} {Q : Value → Shared → Prop} (ga : s.heap.get? a = some { cls := .type "tuple", dict := dd, data := .seq items n, slots := sl })
    (gb : s.heap.get? b = some { cls := .type "tuple", dict := dd2, data := .seq items2 n2, slots := sl2 }) (ia : IntsAre items.toList ns) (ib : IntsAre items2.toList ms) (iv : Looks (model prog w) s.heap (isInstance (.ref a) (.type "tuple")) true)
    (iu : ∀ M : Model, Looks M s.heap (isInstance (.ref b) (.type "tuple")) true) (h : Q (.bool (HT.lexLt ns ms)) s) : wpAny (model prog w) A (call (.builtin "tuple.__lt__") [.ref a, .ref b]) Q E s := by
  refine wpAny_call (codeAny_call_builtin PySem.F.slot_tuple_lt.plain PySem.F.entry_tuple_lt (@check_slot (model prog w) _ _ _ "tuple.__lt__" "tuple" "__lt__" (.ref a) [.ref b] [] _ (by decide +kernel) (by decide +kernel) iv (PySem.F.args_tuple_lt_2 _ _) ?_))
  refine wpAny_mono (NtL.nt_lt_ints a b (.type "tuple") (.type "tuple") items items2 n n2 dd dd2 sl sl2 ns ms ia ib prog w _ (wants Q E) s ⟨ga, gb, iu, h⟩) (fun fin s' q => ?_) fun _ _ z => z
  cases fin with
  | done f => exact q
  | again c => exact q
/-- by tuple.__lt__ -/
theorem lt_oneType {v u : Value} {ns ms : List Int} {Q : Bool → Shared → Prop} (hu : A.units < cLine) (hv : IsI s.heap v ns) (hw : IsI s.heap u ms) (h : Q (HT.lexLt ns ms) s) : wpAny (model prog w) A (keyLt' oneType' v u) Q E s := by
  have tv : Looks (model prog w) s.heap (typeOf v) (.type "tuple") := hv.type
  have sp : Looks (model prog w) s.heap (specialOf v "__lt__") (some (.builtin "tuple.__lt__")) := tv.andThen (Looks.of_pure PySem.F.slot_tuple_lt.lookup)
  have iv : ∀ M : Model, Looks M s.heap (isInstance v (.type "tuple")) true := fun M => (hv.type (M := M)).andThen (Looks.of_pure (by first | rfl | kernel_rfl))
  have iu : ∀ M : Model, Looks M s.heap (isInstance u (.type "tuple")) true := fun M => (hw.type (M := M)).andThen (Looks.of_pure (by first | rfl | kernel_rfl))
  obtain ⟨a, o, items, n, rfl, ho, hc, hd, hi⟩ := hv
  obtain ⟨a', o', items', n', rfl, ho', hc', hd', hi'⟩ := hw
  obtain ⟨c1, d1, dt1, sl1⟩ := o
  obtain ⟨c2, d2, dt2, sl2⟩ := o'
  replace hc : c1 = .type "tuple" := hc
  replace hd : dt1 = .seq items n := hd
  replace hc' : c2 = .type "tuple" := hc'
  replace hd' : dt2 = .seq items' n' := hd'
  subst hc hd hc' hd'
  rw [keyLt'_oneType, oneLt'_eq]
  simp only [if_true]
  refine wpAny_bind (wpAny_cRoomFor hu ?_)
  refine wpAny_bind (NtL.csib (E := E) sp (PySem.F.slot_tuple_lt.bind _) ?_)
  exact call_ltT ho ho' hi hi' (iv _) iu (wpAny_truthy_bool h)
/-- all have an item -/
theorem kind_full {vs : List Value} {k : Value → List Int} {Q : SortKind → Shared → Prop} {M : Model} (h2 : 0 < vs.length) (hv : ∀ v ∈ vs, IsI s.heap v (k v) ∧ k v ≠ []) (h : Q (tuples' true) s) : wpAny M A (keyKind' vs.toArray) Q E s := by
  have key : ∀ l : List Value, (∀ v ∈ l, IsI s.heap v (k v) ∧ k v ≠ []) → ∃ fs, KatTups s.heap l fs ∧ l.length = fs.length ∧ ∀ f ∈ fs, ∃ x t, f = .int x t := by
    intro l
    induction l with
    | nil => intro _; exact ⟨[], .nil, rfl, fun f m => by cases m⟩
    | cons v l ih =>
      intro hl
      obtain ⟨fs, t, e, hf⟩ := ih fun u m => hl u (List.mem_cons_of_mem _ m)
      obtain ⟨⟨a, o, items, n, rfl, ho, hc, hd, hi⟩, hk⟩ := hl v List.mem_cons_self
      generalize k (.ref a) = ks at hi hk
      cases hq : items.toList with
      | nil => rw [hq] at hi; cases hi; exact absurd rfl hk
      | cons x r =>
        rw [hq] at hi
        cases hi with
        | cons y u r2 =>
          refine ⟨.int y u :: fs, .cons ho hc hd ?_ t, by simp [e], fun f m => ?_⟩
          · rw [← Array.getElem?_toList, hq]; rfl
          · rcases List.mem_cons.mp m with rfl | m
            · exact ⟨_, _, rfl⟩
            · exact hf f m
  obtain ⟨fs, t, e, hf⟩ := key vs hv
  refine PySem.W.kat_kind (T := .type "int") t (by omega) (fun f hm => ?_) (by rfl) ?_
  · obtain ⟨x, t, rfl⟩ := hf f hm
    exact PySem.W.Looks.now
  · have e : (Value.type "int" != Value.type "tuple") = true := by first | decide +kernel | rfl | decide
    rw [e]
    exact h
/-- the first one is empty -/
theorem kind_head {v : Value} {vs : List Value} {k : Value → List Int} {Q : SortKind → Shared → Prop} {M : Model} (hv : ∀ u ∈ v :: vs, IsI s.heap u (k u)) (h0 : k v = []) (h : Q oneType' s) : wpAny M A (keyKind' (v :: vs).toArray) Q E s := by
  rw [kat_kind_eq, List.mapM_toArray, map_eq_pure_bind]
  have key : ∀ (l : List Value) (Q' : List (Option Value) → Shared → Prop), (∀ u ∈ l, IsI s.heap u (k u)) → (∀ r, r.length = l.length → (∀ (u : Value) (l' : List Value), l = u :: l' → k u = [] → ∃ r', r = none :: r') → Q' r s) → wpAny M A (l.mapM firstOfTuple') Q' E s := by
    intro l
    induction l with
    | nil => intro Q' _ hq; rw [List.mapM_nil]; exact wpAny_pure (hq [] rfl fun _ _ e => by cases e)
    | cons u l ih =>
      intro Q' hl hq
      rw [List.mapM_cons]
      have hu := hl u List.mem_cons_self
      have ht := hu.type (M := M)
      obtain ⟨a, o, items, n, rfl, ho, hc, hd, hi⟩ := hu
      refine wpAny_bind ?_
      rw [kas_first_eq]
      refine wpAny_bind (ht.here ?_)
      rw [if_neg (by decide)]
      refine wpAny_bind (listItems_at ho hd (wpAny_pure ?_))
      refine wpAny_bind (ih _ (fun u m => hl u (List.mem_cons_of_mem _ m)) fun r e _ => wpAny_pure (hq _ (by simp [e]) fun u' l' e2 e3 => ?_))
      cases e2
      rw [e3] at hi
      refine ⟨r, ?_⟩
      have : items.toList = [] := by
        cases hq2 : items.toList with
        | nil => rfl
        | cons x xs => rw [hq2] at hi; cases hi
      have e4 : items[0]? = none := by rw [← Array.getElem?_toList, this]; rfl
      rw [e4]
  refine wpAny_bind (wpAny_bind (key _ _ hv fun r e hr => wpAny_pure ?_))
  obtain ⟨r', rfl⟩ := hr v vs rfl h0
  rw [if_neg (by simp), if_neg (by simp)]
  rw [oneTypeOnly'_eq, List.mapM_toArray, map_eq_pure_bind]
  refine wpAny_bind (wpAny_bind (wpAny_bind (kas_mapM (r := .type "tuple") _ (fun u hu Q' hq => ((hv u hu).type (M := M)).here hq) (wpAny_pure ?_))))
  have hall : ((List.map (fun _ => Value.type "tuple") (v :: vs)).toArray.all fun x => x == Value.type "tuple") = true := by
    simp only [List.all_toArray, List.all_map, List.all_eq_true]
    intro _ _
    show (Value.type "tuple" == Value.type "tuple") = true
    decide
  have h1 : (List.map (fun _ => Value.type "tuple") (v :: vs)).toArray[0]? = some (Value.type "tuple") := by simp
  rw [h1]
  simp only [hall, if_true]
  exact wpAny_pure (wpAny_pure h)
theorem sortable {a : Addr} {vs : List Value} {k : Value → List Int} (hu : A.units < cLine) (h0 : 0 < vs.length) (hv : ∀ v ∈ vs, IsI s.heap v (k v)) (hk : (∀ v ∈ vs, k v ≠ []) ∨ ∃ v r, vs = v :: r ∧ k v = []) (ha : ∀ o, s.heap.get? a = some o → o.cls ≠ .type "tuple") :
    SortableO prog w A s a vs fun v u => HT.lexLt (k v) (k u) := by
  intro h' keep
  have hv' : ∀ v ∈ vs, IsI h' v (k v) := fun v hm => (hv v hm).keeps fun b o c e => keep b o (fun z => by subst z; exact ha o e c) e
  rcases hk with hk | ⟨v, r, rfl, hk⟩
  · exact ⟨tuples' true, fun Q E hq => kind_full (s := { s with heap := h' }) h0 (fun v m => ⟨hv' v m, hk v m⟩) hq, fun p q hp hq => lt_tuples (s := { s with heap := h' }) (hv' _ hp) (hv' _ hq) ⟨rfl, rfl⟩⟩
  · exact ⟨oneType', fun Q E hq => kind_head (s := { s with heap := h' }) hv' hk hq, fun p q hp hq => lt_oneType (s := { s with heap := h' }) hu (hv' _ hp) (hv' _ hq) ⟨rfl, rfl⟩⟩
theorem swo_k (k : Value → List Int) : Swo fun v u => HT.lexLt (k v) (k u) := ⟨fun x y => lex_swo.asym _ _, fun x y z => lex_swo.tr _ _ _⟩
theorem sorted_tups {l : Addr} {vs : List Value} {k : Value → List Int} {Q : Value → Shared → Prop} (hu : A.in1.in1.units < cLine) (hl : s.heap.IsList l vs.toArray) (hz : vs.length ≤ sizeLine) (hp : ∀ v ∈ vs, IsI s.heap v (k v)) (hk : (∀ v ∈ vs, k v ≠ []) ∨ ∃ v r, vs = v :: r ∧ k v = [])
    (h : ∀ (h' : Heap) (d : Addr) (out : List Value), Srtd (fun v u => HT.lexLt (k v) (k u)) out → Stb (fun v u => HT.lexLt (k v) (k u)) out vs → (∀ b o, s.heap.get? b = some o → h'.get? b = some o) → s.heap.objs.size ≤ d → (∃ n, h'.get? d = some (seqObj "list" out.toArray n)) → Q (.ref d) { s with heap := h' }) :
    wpAny (model prog w) A (call (.builtin "sorted") [.ref l]) Q E s := by
  refine sorted_ord (swo_k k) hl hz (fun h2 h₁ a ha kk => ?_) fun out hs hb => ?_
  · refine sortable (s := { s with heap := h₁ }) hu (by omega) (fun v hm => (hp v hm).keeps fun b o _ e => (kk b o e).2) hk fun o e => ?_
    have e' : some o = some (seqObj "list" vs.toArray 0) := e.symm.trans ha
    cases e'
    intro c
    exact absurd (Value.type.inj c) (by decide)
  · exact h _ _ out hs hb (fun b o e => sortedAll_old e) (Nat.le_succ _) (sortedAll_at s.heap vs out.toArray)
theorem collect_tup {l : Addr} {vs : List Value} {Q : List Value → Shared → Prop} (hl : IsTup s.heap l vs.toArray)
    (h : Q vs { s with heap := (s.heap.push (seqObj "list" #[] 0)).update s.heap.objs.size (Obj.mapSeq (· ++ vs.toArray)) }) (hsz : vs.length ≤ sizeLine) :
    wpAny (model prog w) A (collect (.ref l)) Q E s := by
  obtain ⟨o, ho, hc, n, hd⟩ := id hl
  unfold collect
  refine wpAny_bind (wpAny_runValue (codeAny_builtin entry_proto_collect' ?_))
  show wpAny _ _ (do again (.builtin "list.__iadd__" ⟨[← newList [], .ref l], []⟩)) _ _ s
  refine wpAny_bind (wpAny_newList (wpAny_pure ⟨Code.quiet_builtin _ (by decide +kernel), codeAny_builtin entry_list_iadd' ?_⟩))
  show wpAny _ _ (Builtin.List.listExtendWith (.ref s.heap.objs.size) (.ref l) (.ref s.heap.objs.size)) _ _ { s with heap := s.heap.push (seqObj "list" #[] 0) }
  unfold Builtin.List.listExtendWith
  have ho' : (s.heap.push (seqObj "list" #[] 0)).get? l = some o := Heap.get?_push_of_some _ ho
  refine wpAny_bind (wpAny_typeOf (T := "tuple") ⟨o, ho', hc⟩ ?_)
  have ht : (Value.type "tuple" == Value.type "tuple") = true := by rfl
  rw [if_pos (by rw [ht]; simp)]
  refine wpAny_bind (listItems_at ho' hd ?_)
  refine wpAny_bind (listItems_at (xs := #[]) (n := 0) (Heap.get?_push_size _ rfl) rfl ?_)
  rw [if_neg (by simp)]
  refine wpAny_bind (listUpdate_at (xs := #[]) (n := 0) (Heap.get?_push_size _ rfl) rfl ?_ (Nat.zero_le _) (by show (#[] ++ vs.toArray).size ≤ sizeLine + 1; simp only [Array.size_append, List.size_toArray]; show 0 + vs.length ≤ sizeLine + 1; omega))
  refine wpAny_pure ?_
  show wpAny (model prog w) A (do
      let o ← load s.heap.objs.size
      match o.data with
      | .seq xs _ => pure xs.toList
      | _ => unsupported "internal:collect") Q E { s with heap := (s.heap.push (seqObj "list" #[] 0)).update s.heap.objs.size (Obj.mapSeq (· ++ vs.toArray)) }
  refine wpAny_bind (wpAny_load (get?_update_seq (Heap.get?_push_size _ rfl) _) ?_)
  show wpAny _ _ (pure ((#[] : Array Value) ++ vs.toArray).toList) Q E _
  rw [show ((#[] : Array Value) ++ vs.toArray).toList = vs by simp]
  exact wpAny_pure h
theorem sorted_ordT {l : Addr} {vs : List Value} {ltv : Value → Value → Bool} {Q : Value → Shared → Prop} (O : Swo ltv) (hl : IsTup s.heap l vs.toArray) (hz : vs.length ≤ sizeLine)
    (hS : 2 ≤ vs.length → ∀ (h₁ : Heap) (a : Addr), h₁.get? a = some (seqObj "list" vs.toArray 0) → (∀ b o, s.heap.get? b = some o → b ≠ a ∧ h₁.get? b = some o) → SortableO prog w A.in1.in1 { s with heap := h₁ } a vs ltv)
    (h : ∀ out : List Value, Srtd ltv out → Stb ltv out vs → Q (.ref (s.heap.objs.size + 1)) { s with heap := sortedAll s.heap vs out.toArray }) :
    wpAny (model prog w) A (call (.builtin "sorted") [.ref l]) Q E s := by
  refine Calls.call_function_entry kind_sorted plain_sorted entry_sorted (args_sorted1 _) ?_
  unfold Builtin.«sorted»
  refine wpAny_bind (m := checkCount "sorted" 1 1 _) (wpAny_pure ?_)
  refine wpAny_bind (collect_tup hl ?_ hz)
  refine wpAny_bind (wpAny_newList ?_ hz)
  have hsz : ((s.heap.push (seqObj "list" #[] 0)).update s.heap.objs.size (Obj.mapSeq (· ++ vs.toArray))).objs.size = s.heap.objs.size + 1 := by
    rw [Heap.size_update, size_push']
  have hoL : (((s.heap.push (seqObj "list" #[] 0)).update s.heap.objs.size (Obj.mapSeq (· ++ vs.toArray))).push (seqObj "list" vs.toArray 0)).get? (s.heap.objs.size + 1) = some (seqObj "list" vs.toArray 0) := by
    rw [← hsz]; exact Heap.get?_push_size _ rfl
  have keep : ∀ b o, s.heap.get? b = some o → b ≠ s.heap.objs.size + 1 ∧ (((s.heap.push (seqObj "list" #[] 0)).update s.heap.objs.size (Obj.mapSeq (· ++ vs.toArray))).push (seqObj "list" vs.toArray 0)).get? b = some o := fun b o q => by
    have hlt : b < s.heap.objs.size := Heap.lt_size q
    refine ⟨Nat.ne_of_lt (Nat.lt_succ_of_lt hlt), Heap.get?_push_of_some _ ?_⟩
    rw [Heap.get?_update_ne _ _ _ _ (Nat.ne_of_lt hlt)]
    exact Heap.get?_push_of_some _ q
  show wpAny _ _ _ _ _ { s with heap := ((s.heap.push (seqObj "list" #[] 0)).update s.heap.objs.size (Obj.mapSeq (· ++ vs.toArray))).push (seqObj "list" vs.toArray 0) }
  rw [hsz]
  refine wpAny_bind (wpAny_holding (wpAny_call_entry slot_list_sort ⟨_, hoL, rfl⟩ entry_list_sort (list_sort_ord O hoL hz (fun h2 => hS h2 _ _ hoL keep) fun out hs hb => ⟨_, rfl, ?_⟩) (args_list_sort _)))
  exact wpAny_pure ⟨_, rfl, h out hs hb⟩
theorem sorted_tupsT {l : Addr} {vs : List Value} {k : Value → List Int} {Q : Value → Shared → Prop} (hu : A.in1.in1.units < cLine) (hl : IsTup s.heap l vs.toArray) (hz : vs.length ≤ sizeLine) (hp : ∀ v ∈ vs, IsI s.heap v (k v)) (hk : (∀ v ∈ vs, k v ≠ []) ∨ ∃ v r, vs = v :: r ∧ k v = [])
    (h : ∀ (h' : Heap) (d : Addr) (out : List Value), Srtd (fun v u => HT.lexLt (k v) (k u)) out → Stb (fun v u => HT.lexLt (k v) (k u)) out vs → (∀ b o, s.heap.get? b = some o → h'.get? b = some o) → s.heap.objs.size ≤ d → (∃ n, h'.get? d = some (seqObj "list" out.toArray n)) → Q (.ref d) { s with heap := h' }) :
    wpAny (model prog w) A (call (.builtin "sorted") [.ref l]) Q E s := by
  refine sorted_ordT (swo_k k) hl hz (fun h2 h₁ a ha kk => ?_) fun out hs hb => ?_
  · refine sortable (s := { s with heap := h₁ }) hu (by omega) (fun v hm => (hp v hm).keeps fun b o _ e => (kk b o e).2) hk fun o e => ?_
    have e' : some o = some (seqObj "list" vs.toArray 0) := e.symm.trans ha
    cases e'
    intro c
    exact absurd (Value.type.inj c) (by decide)
  · exact h _ _ out hs hb (fun b o e => sortedAll_old e) (Nat.le_succ _) (sortedAll_at s.heap vs out.toArray)
end
end ItS
namespace L2
open PySem PySem.Spec PyProof.Rows
/-- sorted(xs), xs a list or a tuple of tuples of ints: a new list, sorted, equal ones in their order -/
def rSortedLT (K : PySem.W.Frag) : List V → Hp → VK → Prop := fun vs H Q => ∃ (a : Addr) (xs : List V) (k : V → List Int), vs = [V.ref a] ∧ (SqL K H a xs ∨ SqT K H a xs) ∧ (∀ x ∈ xs, ∃ t, x = V.ref t ∧ H t = some (.tup ((k x).map V.int))) ∧
  ((∀ x ∈ xs, k x ≠ []) ∨ ∃ x r, xs = x :: r ∧ k x = []) ∧
  ∀ ys p, SrtO.Srtd (fun x y => HT.lexLt (k x) (k y)) ys → SrtO.Stb (fun x y => HT.lexLt (k x) (k y)) ys xs → H p = none → Q (.ref p) (upd H p (.lst ys))
section
variable {X : Cx}
theorem cr_sortedLT (hu : X.A.units + 64 < cLine) : CallR X (.builtin "sorted") (rSortedLT X.K) := by
  intro pins s σ H vs us Q I r h
  obtain ⟨a, xs, k, rfl, hs, hx, hk, q⟩ := h
  obtain ⟨u, rfl, ru⟩ := vals1 r
  obtain rfl : u = Value.ref a := ru
  have hu2 : X.A.in1.in1.units < cLine := by
    have e : X.A.in1.in1.units ≤ X.A.units + 4 := by
      unfold Around.in1
      simp
    omega
  have go : ∀ its : List Value, Vals xs its → xs.length ≤ sizeLine → (s.heap.IsList a its.toArray ∨ IsTup s.heap a its.toArray) → wpAny (model X.prog X.w) X.A (call (.builtin "sorted") [.ref a]) (EP X pins σ Q) X.xe s := by
    intro its rv hz hlt
    obtain ⟨e1, e2⟩ := refs_back rv fun x m => by
      obtain ⟨t, e, _⟩ := hx x m
      exact ⟨t, e⟩
    have hp : ∀ v ∈ its, ItS.IsI s.heap v (k (backV v)) := fun v hv => by
      obtain ⟨t, rfl⟩ := e2 v hv
      have hm : V.ref t ∈ xs := by rw [e1]; exact List.mem_map.mpr ⟨_, hv, rfl⟩
      obtain ⟨t', e, ht⟩ := hx _ hm
      cases e
      obtain ⟨_, its2, r2, o, ho, hc, n, hd⟩ := I.hok _ _ ht
      exact ⟨t, o, its2.toArray, n, rfl, ho, hc, hd, r2.ints⟩
    have hk' : (∀ v ∈ its, k (backV v) ≠ []) ∨ ∃ v r, its = v :: r ∧ k (backV v) = [] := by
      rcases hk with hk | ⟨x, r', e, hk⟩
      · exact .inl fun v hv => hk _ (by rw [e1]; exact List.mem_map.mpr ⟨_, hv, rfl⟩)
      · cases its with
        | nil => rw [e] at e1; cases e1
        | cons v its =>
          rw [e] at e1
          injection e1 with e3 e4
          exact .inr ⟨v, its, rfl, by rw [← e3]; exact hk⟩
    have fin : ∀ (h' : Heap) (d : Addr) (out : List Value), SrtO.Srtd (fun v u => HT.lexLt (k (backV v)) (k (backV u))) out → SrtO.Stb (fun v u => HT.lexLt (k (backV v)) (k (backV u))) out its → (∀ b o, s.heap.get? b = some o → h'.get? b = some o) → s.heap.objs.size ≤ d → (∃ n, h'.get? d = some (seqObj "list" out.toArray n)) → EP X pins σ Q (.ref d) { s with heap := h' } := by
      intro h' d out h1 h2 kp hd hn
      have h3 : ∀ u ∈ out, ∃ a, u = Value.ref a := fun u hu => e2 u (h2.perm.mem_iff.mp hu)
      obtain ⟨n, hn⟩ := hn
      have hb : SrtO.Stb (fun x y => HT.lexLt (k x) (k y)) (out.map backV) xs := by
        rw [e1]
        exact SrtO.Stb.map (⟨fun x y => ItS.lex_swo.asym _ _, fun x y z => ItS.lex_swo.tr _ _ _⟩ : SrtO.Swo fun x y => HT.lexLt (k x) (k y)) backV h2
      refine ⟨.ref d, upd H d (.lst (out.map backV)), I.laid (t' := s.toks) kp hd ⟨?_, out, n, vals_back h3, hn⟩, rfl, q _ d (SrtO.srtd_map h1) hb (I.hok.fresh hd)⟩
      rw [hb.len]
      exact hz
    rcases hlt with hl | hl
    · exact ItS.sorted_tups (k := fun u => k (backV u)) hu2 hl (by rw [← rv.length]; exact hz) hp hk' fin
    · exact ItS.sorted_tupsT (k := fun u => k (backV u)) hu2 hl (by rw [← rv.length]; exact hz) hp hk' fin
  rcases hs with hs | hs
  · obtain ⟨its, rv, hl, hz⟩ := I.list hs
    exact go its rv hz (.inl hl.isList)
  · obtain ⟨its, rv, hl, hz⟩ := I.tuple hs
    exact go its rv hz (.inr hl)
end
end L2

set_option Elab.async false
set_option linter.all false
set_option maxRecDepth 100000
set_option maxHeartbeats 4000000
set_option autoImplicit false
/-! max, min of a tuple of ints -/
namespace PySem
section
variable {prog : Program} {w : World} {A : Around} {E : Value → Shared → Prop} {s : Shared} {l : Addr} {xs : Array (Int × Tok)}
theorem iter_intTup {R : Value → Shared → Prop} (ht : s.heap.IsTuple l (intItems xs))
    (h : ∀ s₂ : Shared, s₂ = { s with heap := s.heap.push { cls := .type "tuple_iterator", data := .fields #[.ref l, .int 0 0] } } → s₂.heap.IsTupleIter s.heap.objs.size l 0 ∧ s₂.heap.IsTuple l (intItems xs) → (∀ b ∈ [s.heap.objs.size, l], b < s₂.heap.objs.size) → l ≠ s.heap.objs.size → R (.ref s.heap.objs.size) s₂) :
    wpAny (model prog w) A (pyIter (.ref l)) R E s := by
  obtain ⟨o, ho, hc, n, hd⟩ := id ht
  refine wpAny_pyIter_tuple ht (h _ rfl ⟨⟨_, Heap.get?_push_size _ rfl, rfl, rfl⟩, ht.at fun o e => Heap.get?_push_of_some _ e⟩ (fun b hb => ?_) (Nat.ne_of_lt (Heap.lt_size ho)))
  rcases List.mem_cons.mp hb with rfl | hb
  · exact Heap.lt_size (Heap.get?_push_size _ rfl)
  · obtain rfl := List.mem_singleton.mp hb
    exact Heap.lt_size (Heap.get?_push_of_some _ ho)
theorem old_keptT {h' : Heap} (hk : ∀ b o, b ∉ [s.heap.objs.size] → (s.heap.push { cls := .type "tuple_iterator", data := .fields #[.ref l, .int 0 0] }).get? b = some o → h'.get? b = some o) :
    ∀ b o, s.heap.get? b = some o → h'.get? b = some o := fun b o e => by
  refine hk b o (fun hm => ?_) (Heap.get?_push_of_some _ e)
  rcases List.mem_cons.mp hm with e1 | hm
  · exact absurd (e1 ▸ Heap.lt_size e) (Nat.lt_irrefl _)
  · cases hm
theorem max_intTup {Q : Value → Shared → Prop} (hh : A.handled = none) (hl : s.heap.IsTuple l (intItems xs)) (hne : 0 < xs.size)
    (h : ∀ v h' tk, (intItems xs)[argBest (fun i j => decide (numAt xs i > numAt xs j)) (xs.size - 1)]? = some v → (∀ b o, s.heap.get? b = some o → h'.get? b = some o) → Q v { s with heap := h', toks := tk }) :
    wpAny (model prog w) A (call (.builtin "max") [.ref l]) Q E s := by
  refine call_max_walk (iter_intTup hl fun s₂ e st hfp hlI => ?_)
  subst e
  refine ⟨_, _, _, _, _, _, _, rfl, Walks.tuple (A := A.in1) hh _ l hlI (intItems xs), st, hfp, by simpa [intItems] using hne, CmpOf.ints_gt (numAt xs) (fun _ _ => intItems_at), fun v h' tk hP hk => ?_⟩
  exact h v h' tk (by simpa [intItems] using hP) (old_keptT hk)
theorem min_intTup {Q : Value → Shared → Prop} (hh : A.handled = none) (hl : s.heap.IsTuple l (intItems xs)) (hne : 0 < xs.size)
    (h : ∀ v h' tk, (intItems xs)[argBest (fun i j => decide (numAt xs i < numAt xs j)) (xs.size - 1)]? = some v → (∀ b o, s.heap.get? b = some o → h'.get? b = some o) → Q v { s with heap := h', toks := tk }) :
    wpAny (model prog w) A (call (.builtin "min") [.ref l]) Q E s := by
  refine call_min_walk (iter_intTup hl fun s₂ e st hfp hlI => ?_)
  subst e
  refine ⟨_, _, _, _, _, _, _, rfl, Walks.tuple (A := A.in1) hh _ l hlI (intItems xs), st, hfp, by simpa [intItems] using hne, CmpOf.ints_lt (numAt xs) (fun _ _ => intItems_at), fun v h' tk hP hk => ?_⟩
  exact h v h' tk (by simpa [intItems] using hP) (old_keptT hk)
end
end PySem
namespace L2
open PySem PySem.Spec PyProof.Rows
section
variable {prog : Program} {w : World} {A : Around} {E : Value → Shared → Prop} {s : Shared} {l : Addr} {its : List Value} {ns : List Int} {Q : Value → Shared → Prop}
theorem max_rawT (hh : A.handled = none) (hl : s.heap.IsTuple l its.toArray) (hi : IntsAre its ns) (hne : 0 < ns.length)
    (h : ∀ h' tk M t', (∀ b o, s.heap.get? b = some o → h'.get? b = some o) → M ∈ ns → (∀ a, a ∈ ns → a ≤ M) → Q (.int M t') { s with heap := h', toks := tk }) : wpAny (model prog w) A (call (.builtin "max") [.ref l]) Q E s := by
  obtain ⟨xs, e⟩ := hi.allInts.items
  have hn : numsOf (intItems xs).toList = ns := by rw [← e]; exact hi.numsOf
  rw [nums_intItems] at hn
  subst hn
  rw [e] at hl
  have hsz : 0 < xs.size := by simpa using hne
  refine PySem.max_intTup hh hl hsz fun v h' tk hv hk => ?_
  obtain ⟨t, rfl⟩ := intItems_at hv
  obtain ⟨h1, h2⟩ := argBest_gt (numAt xs) (xs.size - 1)
  refine h h' tk _ t hk ?_ fun a ha => ?_
  · rw [numAt_eq]; exact PySem.getD_mem (by rw [List.length_map, Array.length_toList]; omega)
  · obtain ⟨j, hj, rfl⟩ := mem_getD ha
    rw [List.length_map, Array.length_toList] at hj
    rw [← numAt_eq]; exact h2 j (by omega)
theorem min_rawT (hh : A.handled = none) (hl : s.heap.IsTuple l its.toArray) (hi : IntsAre its ns) (hne : 0 < ns.length)
    (h : ∀ h' tk M t', (∀ b o, s.heap.get? b = some o → h'.get? b = some o) → M ∈ ns → (∀ a, a ∈ ns → M ≤ a) → Q (.int M t') { s with heap := h', toks := tk }) : wpAny (model prog w) A (call (.builtin "min") [.ref l]) Q E s := by
  obtain ⟨xs, e⟩ := hi.allInts.items
  have hn : numsOf (intItems xs).toList = ns := by rw [← e]; exact hi.numsOf
  rw [nums_intItems] at hn
  subst hn
  rw [e] at hl
  have hsz : 0 < xs.size := by simpa using hne
  refine PySem.min_intTup hh hl hsz fun v h' tk hv hk => ?_
  obtain ⟨t, rfl⟩ := intItems_at hv
  obtain ⟨h1, h2⟩ := argBest_lt (numAt xs) (xs.size - 1)
  refine h h' tk _ t hk ?_ fun a ha => ?_
  · rw [numAt_eq]; exact PySem.getD_mem (by rw [List.length_map, Array.length_toList]; omega)
  · obtain ⟨j, hj, rfl⟩ := mem_getD ha
    rw [List.length_map, Array.length_toList] at hj
    rw [← numAt_eq]; exact h2 j (by omega)
end
def rMaxT (K : PySem.W.Frag) : List V → Hp → VK → Prop := fun vs H Q => ∃ (a : Addr) (ns : List Int), vs = [V.ref a] ∧ SqT K H a (ns.map V.int) ∧ 0 < ns.length ∧ ∀ m, m ∈ ns → (∀ y, y ∈ ns → y ≤ m) → Q (.int m) H
def rMinT (K : PySem.W.Frag) : List V → Hp → VK → Prop := fun vs H Q => ∃ (a : Addr) (ns : List Int), vs = [V.ref a] ∧ SqT K H a (ns.map V.int) ∧ 0 < ns.length ∧ ∀ m, m ∈ ns → (∀ y, y ∈ ns → m ≤ y) → Q (.int m) H
theorem cr_maxT {X : Cx} (hc : X.calm = true) : CallR X (.builtin "max") (rMaxT X.K) := by
  intro pins s σ H vs us Q I r h
  obtain ⟨a, ns, rfl, hs, hne, q⟩ := h
  obtain ⟨its, rv, hl, _⟩ := I.tuple hs
  rw [Vals.ref1 r]
  exact max_rawT (I.ok.hd hc) hl rv.ints hne fun h' tk m t' hk h1 h2 => ⟨.int _, H, I.kept hk, ⟨_, rfl⟩, q m h1 h2⟩
theorem cr_minT {X : Cx} (hc : X.calm = true) : CallR X (.builtin "min") (rMinT X.K) := by
  intro pins s σ H vs us Q I r h
  obtain ⟨a, ns, rfl, hs, hne, q⟩ := h
  obtain ⟨its, rv, hl, _⟩ := I.tuple hs
  rw [Vals.ref1 r]
  exact min_rawT (I.ok.hd hc) hl rv.ints hne fun h' tk m t' hk h1 h2 => ⟨.int _, H, I.kept hk, ⟨_, rfl⟩, q m h1 h2⟩
end L2

set_option Elab.async false
set_option linter.all false
set_option maxRecDepth 100000
set_option autoImplicit false
namespace Ev
open PySem PySem.Spec PyProof.Rows L2
open Classical
section
variable {F : Nat → Addr} {K : PySem.W.Frag} {X : Cx} {B B' B1 B2 : Addr → Prop} {env env' env1 env2 : Env} {σ : L2.St} {H H' H1 H2 H3 Hm : Hp} {v w : V} {x y o : Opd} {t : T} {e a b c : Expr} {pos : Pos} {rest : List Expr}
/-! ### lists of operands -/
def VrL (F : Nat → Addr) (K : PySem.W.Frag) (Hm H : Hp) : List T → List V → Prop
  | [], vs => vs = []
  | t :: ts, vs => ∃ v r, vs = v :: r ∧ Vr F K Hm H t v ∧ VrL F K Hm H ts r
def OpdRs (F : Nat → Addr) (K : PySem.W.Frag) (Hm H : Hp) (σ : L2.St) (B : Addr → Prop) : List Opd → List V → Prop
  | [], vs => vs = []
  | o :: os, vs => ∃ v r, vs = v :: r ∧ OpdR F K Hm H σ B o v ∧ OpdRs F K Hm H σ B os r
theorem OpdRs.step (S : Sim F K B1 env1 σ H1) (l : Le env1 env2) (f : Frm env1 σ H1 H2) (e : Ext B1 B2 H1) : ∀ {os : List Opd} {vs : List V}, OpdRs F K (mask (MK B1 env1 σ) H1) H1 σ B1 os vs → OpdRs F K (mask (MK B2 env2 σ) H2) H2 σ B2 os vs
  | [], _, h => h
  | o :: os, vs, h => by
    obtain ⟨v, r, rfl, h1, h2⟩ := h
    exact ⟨v, r, rfl, h1.step S l f e, OpdRs.step S l f e h2⟩
theorem OpdRs.vr (S : Sim F K B env σ H) : ∀ {os : List Opd} {vs : List V} {ts : List T} {env' : Env}, OpdRs F K (mask (MK B env σ) H) H σ B os vs → resAll os env = .ok ts env' → env' = env ∧ VrL F K (mask (MK B env σ) H) H ts vs
  | [], _, _, _, h, e => by
    obtain ⟨rfl, rfl⟩ := pure_ok.mp e
    exact ⟨rfl, h⟩
  | o :: os, vs, ts, env', h, e => by
    obtain ⟨v, r, rfl, h1, h2⟩ := h
    obtain ⟨t, env1, a1, b1⟩ := bind_ok.mp e
    obtain ⟨us, env2, a2, b2⟩ := bind_ok.mp b1
    obtain ⟨rfl, rfl⟩ := pure_ok.mp b2
    obtain ⟨e1, vx⟩ := h1.vr S a1
    rw [e1] at a2
    obtain ⟨e2, vy⟩ := OpdRs.vr S h2 a2
    exact ⟨e2, v, r, rfl, vx, vy⟩
def fOs (F : Nat → Addr) (K : PySem.W.Frag) (m : M (List Opd)) : TA := fun σ H Q => ∃ B env, Sim F K B env σ H ∧ ∃ os env', m env = .ok os env' ∧
  ∀ vs H', Frm env σ H H' ∧ Le env env' ∧ (∃ B', Ext B B' H ∧ Sim F K B' env' σ H' ∧ OpdRs F K (mask (MK B' env' σ) H') H' σ B' os vs ∧
    ∀ (j : Nat) (t : T), os[j]? = some (.own t) → ∃ a, vs[j]? = some (.ref a) ∧ H a = none) → Q vs H'
theorem eo_nil : PA X [] (fOs F X.K (M.pure [])) := pa_nil.imp fun σ H Q ⟨B, env, S, r, env', h0, q⟩ => by
  obtain ⟨rfl, rfl⟩ := pure_ok.mp h0
  exact q [] H ⟨.refl, .refl, B, .refl, S, rfl, fun j t z => by simp at z⟩
theorem eo_cons {es : List Expr} {m : M Opd} {ms : M (List Opd)} (hs : starEach (e :: es) X.env = (false, eval e X.env) :: starEach es X.env) (h : PE X e (fO F X.K m)) (hr : PA X es (fOs F X.K ms)) :
    PA X (e :: es) (fOs F X.K (do let t ← m; let ts ← ms; M.pure (t :: ts))) := by
  refine (pa_cons h hr hs).imp fun σ H Q ⟨B, env, S, r, env', h0, q⟩ => ?_
  obtain ⟨o, env1, a1, b1⟩ := bind_ok.mp h0
  obtain ⟨os, env2, a2, b2⟩ := bind_ok.mp b1
  obtain ⟨rfl, rfl⟩ := pure_ok.mp b2
  refine ⟨B, env, S, o, _, a1, fun v H1 ⟨f1, l1, B1, e1, S1, r1, n1⟩ => ?_⟩
  refine ⟨B1, _, S1, os, _, a2, fun vs H2 ⟨f2, l2, B2, e2, S2, r2, n2⟩ => ?_⟩
  refine q (v :: vs) H2 ⟨f1.trans l1 f2, l1.trans l2, B2, e1.trans f1 e2, S2, ⟨v, vs, rfl, r1.step S1 l2 f2 e2, r2⟩, fun j t z => ?_⟩
  cases j with
  | zero =>
    simp only [List.getElem?_cons_zero, Option.some.injEq] at z
    obtain ⟨a, h1, h2⟩ := n1 t z
    exact ⟨a, by simp [h1], h2⟩
  | succ j =>
    obtain ⟨a, h1, h2⟩ := n2 j t (by simpa using z)
    exact ⟨a, by simpa using h1, f1.lost a h2⟩
/-! ### built-in functions by values -/
def CalS (F : Nat → Addr) (X : Cx) (f : List T → Option (T × Bool)) (r : List V → Hp → VK → Prop) : Prop :=
  ∀ (ts : List T) (z : T × Bool) (Hm H : Hp) (vs : List V) (Q : VK), Hle Hm H → f ts = some z → VrL F X.K Hm H ts vs → (∀ v' H', NewR F X.K Hm H z v' H' → Q v' H') → r vs H Q
theorem ee_bif {es : List Expr} {ms : M (List Opd)} {f : List T → Option (T × Bool)} {r : List V → Hp → VK → Prop} (ha : PA X es (fOs F X.K ms)) (hr : CalS F X f r) (h : ∀ t, PA X es t → PE X e (tCB r t)) :
    PE X e (fE F X.K (do let os ← ms; let ts ← resAll os; lift (f ts))) := by
  refine (h _ ha).imp fun σ H Q ⟨B, env, S, r1, env', h0, q⟩ => ?_
  obtain ⟨os, env1, a1, b1⟩ := bind_ok.mp h0
  obtain ⟨ts, env2, a2, b2⟩ := bind_ok.mp b1
  obtain ⟨c3, rfl⟩ := lift_ok.mp b2
  refine ⟨B, env, S, os, env1, a1, fun vs H1 ⟨f1, l1, B1, e1, S1, r1, _⟩ => ?_⟩
  obtain ⟨rfl, vx⟩ := r1.vr S1 a2
  exact hr ts _ _ H1 vs Q mask_le c3 vx fun v' H' n => q v' H' (n.po S S1 e1 f1 l1)
theorem CalS.or {f g : List T → Option (T × Bool)} {r r' : List V → Hp → VK → Prop} (h : CalS F X f r) (h' : CalS F X g r') : CalS F X (fun t => (f t).or (g t)) fun x H Q => r x H Q ∨ r' x H Q := by
  intro ts z Hm H vs Q e hz hv q
  cases hf : f ts with
  | some k =>
    simp only [hf, Option.some_or] at hz; cases hz
    exact .inl (h ts _ Hm H vs Q e hf hv q)
  | none =>
    simp only [hf, Option.none_or] at hz
    exact .inr (h' ts z Hm H vs Q e hz hv q)
theorem CalS.imp {f : List T → Option (T × Bool)} {r r' : List V → Hp → VK → Prop} (h : CalS F X f r) (i : ∀ vs H Q, r vs H Q → r' vs H Q) : CalS F X f r' := fun ts z Hm H vs Q e hz hv q => i _ _ _ (h ts z Hm H vs Q e hz hv q)
def Cal1 (F : Nat → Addr) (X : Cx) (f : T → Option (T × Bool)) (r : List V → Hp → VK → Prop) : Prop :=
  ∀ (t : T) (z : T × Bool) (Hm H : Hp) (v : V) (Q : VK), Hle Hm H → f t = some z → Vr F X.K Hm H t v → (∀ v' H', NewR F X.K Hm H z v' H' → Q v' H') → r [v] H Q
theorem Cal1.cal {f : T → Option (T × Bool)} {r : List V → Hp → VK → Prop} (h : Cal1 F X f r) : CalS F X (on1 f) r := by
  intro ts z Hm H vs Q e hz hv q
  match ts, hz with
  | [t], hz =>
    obtain ⟨v, r, rfl, h1, h2⟩ := hv
    have h2 : r = [] := h2
    subst h2
    exact h t z Hm H v Q e hz h1 q
theorem seq_vr {ts : List T} (e : Hle Hm H) (h : seqOf t = some ts) (hv : Vr F K Hm H t v) : ∃ a vs, v = .ref a ∧ (SqL K H a vs ∨ SqT K H a vs) ∧ vs.length ≤ sizeLine ∧ RpL F K Hm ts vs := by
  cases t with
  | tup xs =>
    cases h
    have hv : Rp F K Hm (.tup _) v := hv
    simp only [Rp] at hv
    obtain ⟨a, vs, rfl, h1, h2, h3⟩ := hv
    exact ⟨a, vs, rfl, .inr (.inl (.inl (e _ _ h1))), h2, h3⟩
  | lst xs =>
    cases h
    obtain ⟨a, vs, rfl, h1, h2, h3⟩ := hv
    exact ⟨a, vs, rfl, .inl (.inl (.inl h1)), h2, h3⟩
  | scr xs =>
    cases h
    have hv : Rp F K Hm (.scr _) v := hv
    simp only [Rp] at hv
    obtain ⟨a, vs, rfl, h1, h2, h3⟩ := hv
    exact ⟨a, vs, rfl, .inl (SqL.le e h1), h2, h3⟩
  | _ => cases h
theorem c1_len : Cal1 F X lenF (fun xs H Q => ∃ p ys, xs = [.ref p] ∧ (SqL X.K H p ys ∨ SqT X.K H p ys) ∧ Q (.int ys.length) H) := by
  intro t z Hm H v Q e hz hv q
  obtain ⟨ts, hs, rfl⟩ := Option.map_eq_some_iff.mp hz
  obtain ⟨a, vs, rfl, h1, h2, h3⟩ := seq_vr e hs hv
  exact ⟨a, vs, rfl, h1, q _ H (.flat (by simp [Rp, h3.len]) e rfl)⟩
theorem c1_tuple : Cal1 F X tupleF (fun xs H Q => ∃ p ys, xs = [.ref p] ∧ ((SqL X.K H p ys ∧ ∀ l, H l = none → Q (.ref l) (upd H l (.tup ys))) ∨ (SqT X.K H p ys ∧ Q (.ref p) H))) := by
  intro t z Hm H v Q e hz hv q
  obtain ⟨ts, hs, rfl⟩ := Option.map_eq_some_iff.mp hz
  cases t with
  | tup xs =>
    cases hs
    have hv' : Rp F X.K Hm (.tup _) v := hv
    have hv2 := hv'
    simp only [Rp] at hv2
    obtain ⟨a, vs, rfl, h1, h2, h3⟩ := hv2
    exact ⟨a, vs, rfl, .inr ⟨.inl (.inl (e _ _ h1)), q _ H (.old hv' e)⟩⟩
  | lst xs =>
    cases hs
    obtain ⟨a, vs, rfl, h1, h2, h3⟩ := hv
    exact ⟨a, vs, rfl, .inl ⟨.inl (.inl h1), fun l hl => q _ _ (.tup h3 e hl h2)⟩⟩
  | scr xs =>
    cases hs
    have hv : Rp F X.K Hm (.scr _) v := hv
    simp only [Rp] at hv
    obtain ⟨a, vs, rfl, h1, h2, h3⟩ := hv
    exact ⟨a, vs, rfl, .inl ⟨SqL.le e h1, fun l hl => q _ _ (.tup h3 e hl h2)⟩⟩
  | _ => cases hs
theorem c1_list : Cal1 F X listF (fun xs H Q => ∃ p ys, xs = [.ref p] ∧ (SqL X.K H p ys ∨ SqT X.K H p ys) ∧ ∀ l, H l = none → Q (.ref l) (upd H l (.lst ys))) := by
  intro t z Hm H v Q e hz hv q
  obtain ⟨ts, hs, rfl⟩ := Option.map_eq_some_iff.mp hz
  obtain ⟨a, vs, rfl, h1, h2, h3⟩ := seq_vr e hs hv
  exact ⟨a, vs, rfl, h1, fun l hl => q _ _ (.lst h3 hl h2)⟩
theorem rpl_ints : ∀ ns : List Int, RpL F K Hm (ns.map T.int) (ns.map V.int)
  | [] => RpL.nil
  | n :: ns => .cons (by simp [Rp]) (rpl_ints ns)
/-! sorting -/
theorem insB_perm {α : Type} (lt : α → α → Bool) (x : α) : ∀ l : List α, (insB lt x l).Perm (x :: l)
  | [] => List.Perm.refl _
  | y :: ys => by
    unfold insB
    split
    · exact ((insB_perm lt x ys).cons y).trans (List.Perm.swap x y ys)
    · exact List.Perm.refl _
theorem sortB_perm {α : Type} (lt : α → α → Bool) : ∀ l : List α, (sortB lt l).Perm l
  | [] => List.Perm.refl _
  | x :: xs => (insB_perm lt x _).trans ((sortB_perm lt xs).cons x)
theorem insB_sorted {α : Type} {lt : α → α → Bool} (tot : ∀ x y, lt x y = true → lt y x = false) (tr : ∀ x y z, lt y x = false → lt z y = false → lt z x = false) (x : α) : ∀ {l : List α}, l.Pairwise (fun a b => lt b a = false) → (insB lt x l).Pairwise (fun a b => lt b a = false)
  | [], _ => by simp [insB]
  | y :: ys, h => by
    obtain ⟨h1, h2⟩ := List.pairwise_cons.mp h
    unfold insB
    by_cases c : lt y x = true
    · rw [if_pos c]
      refine List.pairwise_cons.mpr ⟨fun z hz => ?_, insB_sorted tot tr x h2⟩
      rcases List.mem_cons.mp ((insB_perm lt x ys).mem_iff.mp hz) with rfl | hz
      · exact tot _ _ c
      · exact h1 z hz
    · rw [if_neg c]
      have c' : lt y x = false := by simpa using c
      refine List.pairwise_cons.mpr ⟨fun z hz => ?_, h⟩
      rcases List.mem_cons.mp hz with rfl | hz
      · exact c'
      · exact tr x y z c' (h1 z hz)
theorem sortB_sorted {α : Type} {lt : α → α → Bool} (tot : ∀ x y, lt x y = true → lt y x = false) (tr : ∀ x y z, lt y x = false → lt z y = false → lt z x = false) : ∀ l : List α, (sortB lt l).Pairwise (fun a b => lt b a = false)
  | [] => List.Pairwise.nil
  | x :: xs => insB_sorted tot tr x (sortB_sorted tot tr xs)
theorem sortI_sorted (ns : List Int) : (sortI ns).Pairwise (· ≤ ·) := (sortB_sorted (lt := fun i j : Int => decide (i < j)) (by intro x y h; simp at h ⊢; omega) (by intro x y z h1 h2; simp at h1 h2 ⊢; omega) ns).imp fun h => by simpa using h
theorem sortI_uniq {ns ms : List Int} (h : ms.Perm ns) (hs : ms.Pairwise (· ≤ ·)) : ms = sortI ns :=
  List.Perm.eq_of_pairwise (le := fun a b : Int => a ≤ b) (fun a b _ _ h1 h2 => Int.le_antisymm h1 h2) hs (sortI_sorted ns) (h.trans (sortB_perm _ ns).symm)
theorem lexP_iff {p q : Int × Int} : lexP p q = true ↔ p.1 < q.1 ∨ (p.1 = q.1 ∧ p.2 < q.2) := by
  unfold lexP; split <;> simp <;> omega
theorem lexP_no {p q : Int × Int} : lexP p q = false ↔ ¬ (p.1 < q.1 ∨ (p.1 = q.1 ∧ p.2 < q.2)) := by
  rw [← lexP_iff]; simp
theorem sortP_sorted (ps : List (Int × Int)) : (sortP ps).Pairwise (fun a b => lexP b a = false) := sortB_sorted (by
    intro x y h
    rw [lexP_iff] at h; rw [lexP_no]; omega) (by
    intro x y z h1 h2
    rw [lexP_no] at h1 h2 ⊢; omega) ps
theorem sortP_uniq {ns ms : List (Int × Int)} (h : ms.Perm ns) (hs : ms.Pairwise (fun a b => lexP b a = false)) : ms = sortP ns :=
  List.Perm.eq_of_pairwise (le := fun a b : Int × Int => lexP b a = false) (fun a b _ _ h1 h2 => by
    rw [lexP_no] at h1 h2
    have e1 : a.1 = b.1 := by omega
    have e2 : a.2 = b.2 := by omega
    exact Prod.ext e1 e2) hs (sortP_sorted ns) (h.trans (sortB_perm _ ns).symm)
theorem c1_sortI : Cal1 F X sortIF (rSortedI X.K) := by
  intro t z Hm H v Q e hz hv q
  unfold sortIF at hz
  split at hz
  · rename_i xs
    obtain ⟨ns, h1, rfl⟩ := Option.map_eq_some_iff.mp hz
    obtain ⟨a, vs, rfl, k1, k2, k3⟩ := hv
    have hv := ints_vals h1 k3
    subst hv
    refine ⟨a, ns, rfl, .inl (.inl k1), fun ns' p hp hs hn => ?_⟩
    have := sortI_uniq hp hs
    subst this
    refine q _ _ (.lst (rpl_ints _) hn ?_)
    rw [List.length_map, hp.length_eq]
    simpa using k2
  · cases hz
/-- the two ints of a pair -/
noncomputable def pairV (H : Hp) (v : V) : Int × Int := if h : ∃ p : Int × Int, ∃ t, v = .ref t ∧ H t = some (.tup [.int p.1, .int p.2]) then h.choose else (0, 0)
theorem pairV_eq {t : Addr} {i j : Int} (h : H t = some (.tup [.int i, .int j])) : pairV H (.ref t) = (i, j) := by
  have hx : ∃ p : Int × Int, ∃ t', V.ref t = .ref t' ∧ H t' = some (.tup [.int p.1, .int p.2]) := ⟨(i, j), t, rfl, h⟩
  unfold pairV
  rw [dif_pos hx]
  obtain ⟨t', e1, e2⟩ := hx.choose_spec
  cases e1
  rw [h] at e2
  injection e2 with e2
  injection e2 with e2
  injection e2 with e4 e5
  injection e5 with e5 _
  injection e4 with e4
  injection e5 with e5
  exact Prod.ext e4.symm e5.symm
theorem pairs_vals : ∀ {ts : List T} {ps : List (Int × Int)} {vs : List V}, pairsOf ts = some ps → RpL F K Hm ts vs → Hle Hm H →
    ps = vs.map (pairV H) ∧ ∀ v ∈ vs, (∃ t, v = .ref t ∧ H t = some (.tup [.int (pairV H v).1, .int (pairV H v).2])) ∧ Rp F K Hm (pairT (pairV H v)) v
  | [], ps, vs, h, r, _ => by
    simp only [pairsOf] at h; cases h
    simp only [RpL] at r; subst r
    exact ⟨rfl, fun v hv => by simp at hv⟩
  | .tup [.int i, .int j] :: ts, ps, vs, h, r, e => by
    simp only [pairsOf] at h
    obtain ⟨qs, h1, rfl⟩ := Option.map_eq_some_iff.mp h
    simp only [RpL] at r
    obtain ⟨v, r', rfl, k1, k2⟩ := r
    obtain ⟨e1, e2⟩ := pairs_vals h1 k2 e
    have k1' := k1
    simp only [Rp, RpL] at k1
    obtain ⟨a, ws, rfl, c1, _, v1, r1, rfl, rfl, v2, r2, rfl, rfl, rfl⟩ := k1
    have hp := pairV_eq (e _ _ c1)
    refine ⟨by rw [List.map_cons, hp, ← e1], fun w hw => ?_⟩
    rcases List.mem_cons.mp hw with rfl | hw
    · rw [hp]
      exact ⟨⟨a, rfl, e _ _ c1⟩, k1'⟩
    · exact e2 w hw
theorem rpl_of {g : V → T} : ∀ {vs : List V}, (∀ v ∈ vs, Rp F K Hm (g v) v) → RpL F K Hm (vs.map g) vs
  | [], _ => RpL.nil
  | v :: vs, h => .cons (h v List.mem_cons_self) (rpl_of fun w hw => h w (List.mem_cons_of_mem _ hw))
theorem c1_sortP : Cal1 F X sortPF (rSortedPO X.K) := by
  intro t z Hm H v Q e hz hv q
  unfold sortPF at hz
  split at hz
  · rename_i xs
    obtain ⟨ps, h1, rfl⟩ := Option.map_eq_some_iff.mp hz
    obtain ⟨a, vs, rfl, k1, k2, k3⟩ := hv
    obtain ⟨e1, e2⟩ := pairs_vals h1 k3 e
    refine ⟨a, vs, pairV H, rfl, .inl (.inl k1), fun x hx => (e2 x hx).1, fun ys p hs hb hn => ?_⟩
    have hp : (ys.map (pairV H)).Perm ps := by rw [e1]; exact hb.perm.map _
    have hs' : (ys.map (pairV H)).Pairwise (fun a b => lexP b a = false) := List.pairwise_map.mpr (List.Pairwise.imp (fun {a b} h => h) hs)
    have hu := sortP_uniq hp hs'
    refine q _ _ (.lst ?_ hn ?_)
    · rw [← hu, List.map_map]
      exact rpl_of fun w hw => (e2 w (hb.perm.mem_iff.mp hw)).2
    · rw [hb.perm.length_eq]; exact k2
  · cases hz
/-- the ints of a tuple -/
noncomputable def tupV (H : Hp) (v : V) : List Int := if h : ∃ p : List Int, ∃ t, v = .ref t ∧ H t = some (.tup (p.map V.int)) then h.choose else []
theorem mapInt_inj : ∀ {a b : List Int}, a.map V.int = b.map V.int → a = b
  | [], [], _ => rfl
  | [], _ :: _, h => by cases h
  | _ :: _, [], h => by cases h
  | x :: a, y :: b, h => by
    injection h with h1 h2
    injection h1 with h1
    rw [h1, mapInt_inj h2]
theorem tupV_eq {t : Addr} {ns : List Int} (h : H t = some (.tup (ns.map V.int))) : tupV H (.ref t) = ns := by
  have hx : ∃ p : List Int, ∃ t', V.ref t = .ref t' ∧ H t' = some (.tup (p.map V.int)) := ⟨ns, t, rfl, h⟩
  unfold tupV
  rw [dif_pos hx]
  obtain ⟨t', e1, e2⟩ := hx.choose_spec
  cases e1
  rw [h] at e2
  injection e2 with e2
  injection e2 with e2
  exact (mapInt_inj e2).symm
theorem tups_vals : ∀ {ts : List T} {ps : List (List Int)} {vs : List V}, tupsOf ts = some ps → RpL F X.K Hm ts vs → Hle Hm H →
    ps = vs.map (tupV H) ∧ ∀ v ∈ vs, (∃ t, v = .ref t ∧ H t = some (.tup ((tupV H v).map V.int))) ∧ Rp F X.K Hm (intsT (tupV H v)) v
  | [], ps, vs, h, r, _ => by
    simp only [tupsOf] at h; cases h
    simp only [RpL] at r; subst r
    exact ⟨rfl, fun v hv => by simp at hv⟩
  | .tup xs :: ts, ps, vs, h, r, e => by
    simp only [tupsOf] at h
    obtain ⟨ns, h0, h⟩ := Option.bind_eq_some_iff.mp h
    obtain ⟨qs, h1, rfl⟩ := Option.map_eq_some_iff.mp h
    simp only [RpL] at r
    obtain ⟨v, r', rfl, k1, k2⟩ := r
    obtain ⟨e1, e2⟩ := tups_vals h1 k2 e
    have hxs : ∀ {xs : List T} {ns : List Int}, intsOf xs = some ns → xs = ns.map T.int := by
      intro xs
      induction xs with
      | nil => intro ns h; simp only [intsOf] at h; cases h; rfl
      | cons x xs ih =>
        intro ns h
        cases x with
        | int i =>
          simp only [intsOf] at h
          obtain ⟨ms, h2, rfl⟩ := Option.map_eq_some_iff.mp h
          rw [ih h2]; rfl
        | _ => simp only [intsOf] at h; cases h
    have k1' := k1
    simp only [Rp] at k1
    obtain ⟨a, ws, rfl, c1, c2, c3⟩ := k1
    have hw := ints_vals h0 c3
    subst hw
    have hp := tupV_eq (e _ _ c1)
    refine ⟨by rw [List.map_cons, hp, ← e1], fun w hw => ?_⟩
    rcases List.mem_cons.mp hw with rfl | hw
    · rw [hp]
      refine ⟨⟨a, rfl, e _ _ c1⟩, ?_⟩
      unfold intsT
      rw [← hxs h0]
      exact k1'
    · exact e2 w hw
theorem lexLt_tot : ∀ {a b : List Int}, HT.lexLt a b = false → HT.lexLt b a = false → a = b
  | [], [], _, _ => rfl
  | [], _ :: _, h, _ => by cases h
  | _ :: _, [], _, h => by cases h
  | x :: a, y :: b, h, h' => by
    rw [HT.lexLt_cons] at h h'
    by_cases e : x = y
    · subst e
      rw [if_pos rfl] at h h'
      rw [lexLt_tot h h']
    · rw [if_neg e] at h
      rw [if_neg (Ne.symm e)] at h'
      have := of_decide_eq_false h
      have := of_decide_eq_false h'
      omega
theorem sortL_sorted (l : List (List Int)) : (sortB HT.lexLt l).Pairwise (fun a b => HT.lexLt b a = false) := sortB_sorted (fun x y h => ItS.lex_swo.asym x y h) (fun x y z h1 h2 => ItS.lex_swo.tr x y z h1 h2) l
theorem sortL_uniq {ns ms : List (List Int)} (h : ms.Perm ns) (hs : ms.Pairwise (fun a b => HT.lexLt b a = false)) : ms = sortB HT.lexLt ns :=
  List.Perm.eq_of_pairwise (le := fun a b => HT.lexLt b a = false) (fun a b _ _ h1 h2 => lexLt_tot h2 h1) hs (sortL_sorted ns) (h.trans (sortB_perm _ ns).symm)
theorem c1_sortT : Cal1 F X sortTF (rSortedLT X.K) := by
  have core : ∀ {xs : List T} {z : T × Bool} {Hm H : Hp} {a : Addr} {vs : List V} {Q : VK}, ((tupsOf xs).bind fun l => if l.all (fun ns => !ns.isEmpty) || headNil l then some (.lst ((sortB HT.lexLt l).map intsT), true) else none) = some z → Hle Hm H → RpL F X.K Hm xs vs → vs.length ≤ sizeLine → (SqL X.K H a vs ∨ SqT X.K H a vs) → (∀ v' H', NewR F X.K Hm H z v' H' → Q v' H') → rSortedLT X.K [.ref a] H Q := by
    intro xs z Hm H a vs Q hz e k3 k2 hs q
    obtain ⟨l, h1, hz⟩ := Option.bind_eq_some_iff.mp hz
    obtain ⟨e1, e2⟩ := tups_vals h1 k3 e
    split at hz
    · rename_i hc
      cases hz
      refine ⟨a, vs, tupV H, rfl, hs, fun x hx => (e2 x hx).1, ?_, fun ys p hs hb hn => ?_⟩
      · rw [Bool.or_eq_true] at hc
        rcases hc with hc | hc
        · refine .inl fun x hx => ?_
          have : tupV H x ∈ l := by rw [e1]; exact List.mem_map.mpr ⟨x, hx, rfl⟩
          have := List.all_eq_true.mp hc _ this
          intro z
          rw [z] at this
          simp at this
        · cases vs with
          | nil => rw [e1] at hc; cases hc
          | cons v vs =>
            refine .inr ⟨v, vs, rfl, ?_⟩
            rw [e1, List.map_cons] at hc
            unfold headNil at hc
            split at hc
            · rename_i q; injection q
            · cases hc
      · have hp : (ys.map (tupV H)).Perm l := by rw [e1]; exact hb.perm.map _
        have hs' : (ys.map (tupV H)).Pairwise (fun a b => HT.lexLt b a = false) := List.pairwise_map.mpr (List.Pairwise.imp (fun {a b} h => h) hs)
        have hu := sortL_uniq hp hs'
        refine q _ _ (.lst ?_ hn ?_)
        · rw [← hu, List.map_map]
          exact rpl_of fun w hw => (e2 w (hb.perm.mem_iff.mp hw)).2
        · rw [hb.perm.length_eq]; exact k2
    · cases hz
  intro t z Hm H v Q e hz hv q
  unfold sortTF at hz
  split at hz
  · rename_i xs
    obtain ⟨a, vs, rfl, k1, k2, k3⟩ := hv
    exact core hz e k3 k2 (.inl (.inl (.inl k1))) q
  · rename_i xs
    have hv : Rp F X.K Hm (.tup xs) v := hv
    simp only [Rp] at hv
    obtain ⟨a, vs, rfl, h1, h2, h3⟩ := hv
    exact core hz e h3 h2 (.inr (.inl (.inl (e _ _ h1)))) q
  · cases hz
theorem cr_sumT (hc : X.calm = true) : CallR X (.builtin "sum") (fun vs H Q => ∃ (a : Addr) (ns : List Int), vs = [V.ref a] ∧ SqT X.K H a (ns.map V.int) ∧ Q (.int ns.sum) H) := by
  intro pins s σ H vs us Q I r h
  obtain ⟨a, ns, rfl, hs, q⟩ := h
  obtain ⟨its, rv, ht, _⟩ := I.tuple hs
  rw [Vals.ref1 r]
  have hi : IntsAre its ns := rv.ints
  obtain ⟨xs, hx⟩ := hi.allInts.items
  have hn : numsOf its.toArray.toList = ns := by rw [show its.toArray.toList = its from rfl, hi.numsOf]
  rw [hx] at ht hn
  rw [nums_intItems] at hn
  have ht : s.heap.IsTuple a (intItems xs) := ht
  refine PySem.W.ktm_sumG (I.ok.hd hc) ht fun h' tk t' hk => ⟨.int ns.sum, H, I.kept hk, ⟨t', ?_⟩, q⟩
  rw [preSum_eq, List.take_of_length_le (by simp), hn]
theorem c1_sum : Cal1 F X sumF (fun vs H Q => rSum X.K vs H Q ∨ ∃ (a : Addr) (ns : List Int), vs = [V.ref a] ∧ SqT X.K H a (ns.map V.int) ∧ Q (.int ns.sum) H) := by
  intro t z Hm H v Q e hz hv q
  obtain ⟨ts, hs, hz⟩ := Option.bind_eq_some_iff.mp hz
  obtain ⟨ns, hn, rfl⟩ := Option.map_eq_some_iff.mp hz
  obtain ⟨a, vs, rfl, h1, h2, h3⟩ := seq_vr e hs hv
  have hv := ints_vals hn h3
  subst hv
  rcases h1 with h1 | h1
  · exact .inl ⟨a, ns, rfl, h1, q _ H (.flat (by simp [Rp]) e rfl)⟩
  · exact .inr ⟨a, ns, rfl, h1, q _ H (.flat (by simp [Rp]) e rfl)⟩
theorem maxI_spec : ∀ (ns : List Int) (m : Int), maxI m ns ∈ m :: ns ∧ ∀ y ∈ m :: ns, y ≤ maxI m ns
  | [], m => by simp [maxI]
  | x :: xs, m => by
    unfold maxI
    generalize e : (if m < x then x else m) = w
    have hw : m ≤ w ∧ x ≤ w ∧ (w = m ∨ w = x) := by subst e; split <;> omega
    obtain ⟨h1, h2⟩ := maxI_spec xs w
    refine ⟨?_, fun y hy => ?_⟩
    · rcases List.mem_cons.mp h1 with h | h
      · rw [h]; rcases hw.2.2 with q | q <;> rw [q] <;> simp
      · exact List.mem_cons_of_mem _ (List.mem_cons_of_mem _ h)
    · have hm := h2 _ List.mem_cons_self
      rcases List.mem_cons.mp hy with rfl | hy
      · omega
      · rcases List.mem_cons.mp hy with rfl | hy
        · omega
        · exact h2 y (List.mem_cons_of_mem _ hy)
theorem minI_spec : ∀ (ns : List Int) (m : Int), minI m ns ∈ m :: ns ∧ ∀ y ∈ m :: ns, minI m ns ≤ y
  | [], m => by simp [minI]
  | x :: xs, m => by
    unfold minI
    generalize e : (if x < m then x else m) = w
    have hw : w ≤ m ∧ w ≤ x ∧ (w = m ∨ w = x) := by subst e; split <;> omega
    obtain ⟨h1, h2⟩ := minI_spec xs w
    refine ⟨?_, fun y hy => ?_⟩
    · rcases List.mem_cons.mp h1 with h | h
      · rw [h]; rcases hw.2.2 with q | q <;> rw [q] <;> simp
      · exact List.mem_cons_of_mem _ (List.mem_cons_of_mem _ h)
    · have hm := h2 _ List.mem_cons_self
      rcases List.mem_cons.mp hy with rfl | hy
      · omega
      · rcases List.mem_cons.mp hy with rfl | hy
        · omega
        · exact h2 y (List.mem_cons_of_mem _ hy)
theorem c1_max : Cal1 F X maxF (fun vs H Q => rMax X.K vs H Q ∨ rMaxT X.K vs H Q) := by
  have core : ∀ {xs : List T} {z : T × Bool} {Hm H : Hp} {a : Addr} {vs : List V} {Q : VK}, (match intsOf xs with | some (n :: ns) => some (T.int (maxI n ns), false) | _ => none) = some z → Hle Hm H → RpL F X.K Hm xs vs → (∀ v' H', NewR F X.K Hm H z v' H' → Q v' H') → ∃ n ns, vs = (n :: ns).map V.int ∧ Q (.int (maxI n ns)) H := by
    intro xs z Hm H a vs Q hz e k3 q
    split at hz
    · rename_i n ns h1
      cases hz
      exact ⟨n, ns, ints_vals h1 k3, q _ H (.flat (by simp [Rp]) e rfl)⟩
    · cases hz
  intro t z Hm H v Q e hz hv q
  unfold maxF at hz
  split at hz
  · rename_i xs
    obtain ⟨a, vs, rfl, k1, k2, k3⟩ := hv
    obtain ⟨n, ns, rfl, hq⟩ := core (a := a) hz e k3 q
    refine .inl ⟨a, n :: ns, rfl, .inl (.inl k1), by simp, fun m hm hy => ?_⟩
    obtain ⟨s1, s2⟩ := maxI_spec ns n
    have : m = maxI n ns := Int.le_antisymm (s2 m hm) (hy _ s1)
    subst this
    exact hq
  · rename_i xs
    have hv : Rp F X.K Hm (.tup xs) v := hv
    simp only [Rp] at hv
    obtain ⟨a, vs, rfl, k1, k2, k3⟩ := hv
    obtain ⟨n, ns, rfl, hq⟩ := core (a := a) hz e k3 q
    refine .inr ⟨a, n :: ns, rfl, .inl (.inl (e _ _ k1)), by simp, fun m hm hy => ?_⟩
    obtain ⟨s1, s2⟩ := maxI_spec ns n
    have : m = maxI n ns := Int.le_antisymm (s2 m hm) (hy _ s1)
    subst this
    exact hq
  · cases hz
theorem c1_min : Cal1 F X minF (fun vs H Q => rMin X.K vs H Q ∨ rMinT X.K vs H Q) := by
  have core : ∀ {xs : List T} {z : T × Bool} {Hm H : Hp} {a : Addr} {vs : List V} {Q : VK}, (match intsOf xs with | some (n :: ns) => some (T.int (minI n ns), false) | _ => none) = some z → Hle Hm H → RpL F X.K Hm xs vs → (∀ v' H', NewR F X.K Hm H z v' H' → Q v' H') → ∃ n ns, vs = (n :: ns).map V.int ∧ Q (.int (minI n ns)) H := by
    intro xs z Hm H a vs Q hz e k3 q
    split at hz
    · rename_i n ns h1
      cases hz
      exact ⟨n, ns, ints_vals h1 k3, q _ H (.flat (by simp [Rp]) e rfl)⟩
    · cases hz
  intro t z Hm H v Q e hz hv q
  unfold minF at hz
  split at hz
  · rename_i xs
    obtain ⟨a, vs, rfl, k1, k2, k3⟩ := hv
    obtain ⟨n, ns, rfl, hq⟩ := core (a := a) hz e k3 q
    refine .inl ⟨a, n :: ns, rfl, .inl (.inl k1), by simp, fun m hm hy => ?_⟩
    obtain ⟨s1, s2⟩ := minI_spec ns n
    have : m = minI n ns := Int.le_antisymm (hy _ s1) (s2 m hm)
    subst this
    exact hq
  · rename_i xs
    have hv : Rp F X.K Hm (.tup xs) v := hv
    simp only [Rp] at hv
    obtain ⟨a, vs, rfl, k1, k2, k3⟩ := hv
    obtain ⟨n, ns, rfl, hq⟩ := core (a := a) hz e k3 q
    refine .inr ⟨a, n :: ns, rfl, .inl (.inl (e _ _ k1)), by simp, fun m hm hy => ?_⟩
    obtain ⟨s1, s2⟩ := minI_spec ns n
    have : m = minI n ns := Int.le_antisymm (hy _ s1) (s2 m hm)
    subst this
    exact hq
  · cases hz
theorem c1_abs : Cal1 F X absF (fun xs H Q => ∃ i, xs = [.int i] ∧ Q (.int (if i < 0 then -i else i)) H) := by
  intro t z Hm H v Q e hz hv q
  unfold absF at hz
  split at hz
  · rename_i i
    cases hz
    have hv : v = .int i := hv
    subst hv
    exact ⟨i, rfl, q _ H (.flat (by simp [Rp]) e rfl)⟩
  · cases hz
theorem c1_int : Cal1 F X intF (fun xs H Q => (∃ i, xs = [.int i] ∧ Q (.int i) H) ∨ ∃ k, xs = [.bl k] ∧ Q (.int (if k then 1 else 0)) H) := by
  intro t z Hm H v Q e hz hv q
  unfold intF at hz
  split at hz
  · rename_i i
    cases hz
    have hv : v = .int i := hv
    subst hv
    exact .inl ⟨i, rfl, q _ H (.flat (by simp [Rp]) e rfl)⟩
  · rename_i i
    cases hz
    have hv : v = .bl i := hv
    subst hv
    exact .inr ⟨i, rfl, q _ H (.flat (by simp [Rp]) e rfl)⟩
  · cases hz
theorem bls_vals : ∀ {ts : List T} {ns : List Bool} {vs : List V}, blsOf ts = some ns → RpL F X.K Hm ts vs → vs = ns.map V.bl
  | [], ns, vs, h, r => by
    simp only [blsOf] at h; cases h
    simp only [RpL] at r; subst r; rfl
  | .bl i :: ts, ns, vs, h, r => by
    simp only [blsOf] at h
    obtain ⟨ms, hq, rfl⟩ := Option.map_eq_some_iff.mp h
    simp only [RpL, Rp] at r
    obtain ⟨v, r', rfl, rfl, h2⟩ := r
    rw [bls_vals hq h2]; rfl
  | .non :: _, _, _, h, _ => by simp [blsOf] at h
  | .int _ :: _, _, _, h, _ => by simp [blsOf] at h
  | .str _ :: _, _, _, h, _ => by simp [blsOf] at h
  | .tup _ :: _, _, _, h, _ => by simp [blsOf] at h
  | .lst _ :: _, _, _, h, _ => by simp [blsOf] at h
  | .scr _ :: _, _, _, h, _ => by simp [blsOf] at h
  | .dic _ :: _, _, _, h, _ => by simp [blsOf] at h
  | .fn _ :: _, _, _, h, _ => by simp [blsOf] at h
theorem c1_all : Cal1 F X allF (rAll X.K) := by
  intro t z Hm H v Q e hz hv q
  unfold allF at hz
  split at hz
  · rename_i xs
    obtain ⟨bs, h1, rfl⟩ := Option.map_eq_some_iff.mp hz
    obtain ⟨a, vs, rfl, k1, k2, k3⟩ := hv
    have hv := bls_vals h1 k3
    subst hv
    exact ⟨a, bs, rfl, .inl (.inl k1), q _ H (.flat (by simp [Rp]) e rfl)⟩
  · cases hz
theorem c1_any : Cal1 F X anyF (rAny X.K) := by
  intro t z Hm H v Q e hz hv q
  unfold anyF at hz
  split at hz
  · rename_i xs
    obtain ⟨bs, h1, rfl⟩ := Option.map_eq_some_iff.mp hz
    obtain ⟨a, vs, rfl, k1, k2, k3⟩ := hv
    have hv := bls_vals h1 k3
    subst hv
    exact ⟨a, bs, rfl, .inl (.inl k1), q _ H (.flat (by simp [Rp]) e rfl)⟩
  · cases hz
theorem vrl2 {t u : T} {vs : List V} (h : VrL F K Hm H [t, u] vs) : ∃ v w, vs = [v, w] ∧ Vr F K Hm H t v ∧ Vr F K Hm H u w := by
  obtain ⟨v, r, rfl, h1, w, r', rfl, h2, h3⟩ := h
  have h3 : r' = [] := h3
  subst h3
  exact ⟨v, w, rfl, h1, h2⟩
theorem c_max2 : CalS F X max2F (fun xs H Q => ∃ i j, xs = [.int i, .int j] ∧ Q (.int (if j > i then j else i)) H) := by
  intro ts z Hm H vs Q e hz hv q
  unfold max2F at hz
  split at hz
  · rename_i i j
    cases hz
    obtain ⟨v, w, rfl, h1, h2⟩ := vrl2 hv
    have h1 : v = .int i := h1
    have h2 : w = .int j := h2
    subst h1 h2
    exact ⟨i, j, rfl, q _ H (.flat (by simp [Rp]) e rfl)⟩
  · cases hz
theorem c_min2 : CalS F X min2F (fun xs H Q => ∃ i j, xs = [.int i, .int j] ∧ Q (.int (if j < i then j else i)) H) := by
  intro ts z Hm H vs Q e hz hv q
  unfold min2F at hz
  split at hz
  · rename_i i j
    cases hz
    obtain ⟨v, w, rfl, h1, h2⟩ := vrl2 hv
    have h1 : v = .int i := h1
    have h2 : w = .int j := h2
    subst h1 h2
    exact ⟨i, j, rfl, q _ H (.flat (by simp [Rp]) e rfl)⟩
  · cases hz
theorem cdivP_small {i j : Int} (h1 : 0 < j) (h2 : j < 2 ^ 20) : CDivP i j := by
  refine ⟨h1, ?_⟩
  unfold Builtin.divisionGoesByPylong
  simp only [Bool.and_eq_false_iff, decide_eq_false_iff_not]
  left
  have hj : j.natAbs < 2 ^ 20 := by omega
  have hl := log2_lt hj (by decide)
  split <;> omega
theorem c_divmod : CalS F X divmodF (fun xs H Q => ∃ i j, xs = [.int i, .int j] ∧ CDivP i j ∧ ∀ p, H p = none → Q (.ref p) (upd H p (.tup [.int (i / j), .int (i % j)]))) := by
  intro ts z Hm H vs Q e hz hv q
  unfold divmodF at hz
  split at hz
  · rename_i i j
    split at hz
    · rename_i c
      cases hz
      obtain ⟨v, w, rfl, h1, h2⟩ := vrl2 hv
      have h1 : v = .int i := h1
      have h2 : w = .int j := h2
      subst h1 h2
      exact ⟨i, j, rfl, cdivP_small c.1 c.2, fun p hp => q _ _ (.tup (rpl_ints [i / j, i % j]) e hp (by show 2 ≤ sizeLine; decide))⟩
    · cases hz
  · cases hz
end
end Ev

set_option Elab.async false
set_option linter.all false
set_option maxRecDepth 100000
set_option autoImplicit false
namespace Ev
open PySem PySem.Spec PyProof.Rows L2
open Classical
/-! ### steps that store -/
structure SPo (F : Nat → Addr) (K : PySem.W.Frag) (B : Addr → Prop) (env env' : Env) (σ σ' : L2.St) (H H' : Hp) : Prop where
  sim : Sim F K B env' σ' H'
  frm : Frm env σ H H'
  own : ∀ a, ownA env' σ' a → ownA env σ a ∨ H a = none
  io : ∀ (i : Nat) (t : T), env[i]? = some (.io t) → (∃ t', env'[i]? = some (.io t')) ∧ σ'[i]? = σ[i]?
  oi : ∀ (i : Nat) (t : T), env'[i]? = some (.io t) → ∃ t', env[i]? = some (.io t')
  len : env'.length = env.length
section
variable {F : Nat → Addr} {K : PySem.W.Frag} {X : Cx} {B B' B1 B2 : Addr → Prop} {env env' env1 env2 : Env} {σ σ' σ1 σ2 : L2.St} {H H' H1 H2 H3 Hm : Hp} {v w : V} {x y o : Opd} {t : T} {e a b c : Expr} {pos : Pos} {rest : List Expr}
theorem SPo.refl (S : Sim F K B env σ H) : SPo F K B env env σ σ H H := ⟨S, .refl, fun a h => .inl h, fun i t h => ⟨⟨t, h⟩, rfl⟩, fun i t h => ⟨t, h⟩, rfl⟩
theorem Frm.then (f1 : Frm env σ H H1) (o1 : ∀ a, ownA env1 σ1 a → ownA env σ a ∨ H a = none) (f2 : Frm env1 σ1 H1 H2) : Frm env σ H H2 :=
  ⟨fun a u e n => f2.keep a u (f1.keep a u e n) fun z => (o1 a z).elim n fun z => (by rw [z] at e; cases e), fun a z => f1.lost a (f2.lost a z)⟩
theorem SPo.trans (h : SPo F K B env env1 σ σ1 H H1) (h' : SPo F K B env1 env2 σ1 σ2 H1 H2) : SPo F K B env env2 σ σ2 H H2 := by
  refine ⟨h'.sim, h.frm.then h.own h'.frm, fun a z => ?_, fun i t z => ?_, fun i t z => ?_, h'.len.trans h.len⟩
  · rcases h'.own a z with z | z
    · exact h.own a z
    · exact .inr (h.frm.lost a z)
  · obtain ⟨⟨t', z1⟩, z2⟩ := h.io i t z
    obtain ⟨z3, z4⟩ := h'.io i t' z1
    exact ⟨z3, z4.trans z2⟩
  · obtain ⟨t', z1⟩ := h'.oi i t z
    exact h.oi i t' z1
theorem getElem_of_isOwn {i : Nat} (h : isOwn env[i]?) : ∃ s, env[i]? = some s ∧ isOwn (some s) := by
  cases q : env[i]? with
  | none => rw [q] at h; exact h.elim
  | some s => exact ⟨s, rfl, q ▸ h⟩
/-- an answer of an expression is a step -/
theorem SPo.of (S' : Sim F K B env' σ H') (f : Frm env σ H H') (l : Le env env') : SPo F K B env env' σ σ H H' :=
  ⟨S', f, fun a z => .inl (l.own z), fun i t z => ⟨l.2.2.1 i t z, rfl⟩, l.2.2.2, l.1⟩
theorem set_get' {i j : Nat} {s : Option V} {z : Option (Option V)} (h : (σ.set i s)[j]? = z) : (i = j ∧ i < σ.length ∧ z = some s) ∨ (¬ (i = j ∧ i < σ.length) ∧ σ[j]? = z) := by
  by_cases e : i = j
  · subst e
    by_cases hl : i < σ.length
    · rw [List.getElem?_set_self hl] at h
      exact .inl ⟨rfl, hl, h.symm⟩
    · refine .inr ⟨fun q => hl q.2, ?_⟩
      rw [← h, List.getElem?_eq_none (by omega), List.getElem?_eq_none (by rw [List.length_set]; omega)]
  · rw [List.getElem?_set_ne e] at h
    exact .inr ⟨fun q => e q.1, h⟩
/-- own addresses behind a plain store -/
theorem own_setSh {i : Nat} (S : Sim F K B env σ H) {a : Addr} (h : ownA (env.set i (.sh t)) (σ.set i (some v)) a) : ownA env σ a := by
  obtain ⟨j, h1, h2⟩ := h
  rcases set_get (env := env) (i := i) (j := j) (s := .sh t) rfl with ⟨e, _, q⟩ | ⟨e, q⟩
  · rw [q] at h1; exact h1.elim
  · rw [← q] at h1
    rcases set_get' h2 with ⟨e', hl, _⟩ | ⟨_, q2⟩
    · exact absurd ⟨e', by rw [S.len]; exact hl⟩ e
    · exact ⟨j, h1, q2⟩
/-- a name bound to a plain value -/
theorem SPo.bindV {i : Nat} (S : Sim F K B env σ H) (h : Rp F K (mask (MK B env σ) H) t v) (hi : ∀ u, env[i]? ≠ some (.io u)) : SPo F K B env (env.set i (.sh t)) σ (σ.set i (some v)) H H := by
  have ow : ∀ a, ownA (env.set i (.sh t)) (σ.set i (some v)) a → ownA env σ a := fun a z => own_setSh S z
  have m : Hle (mask (MK B env σ) H) (mask (MK B (env.set i (.sh t)) (σ.set i (some v))) H) := fun a u q => by
    obtain ⟨h1, h2⟩ := mask_some.mp q
    exact mask_some.mpr ⟨fun z => h1 (z.elim .inl fun z => .inr (ow a z)), h2⟩
  refine ⟨⟨by rw [List.length_set, List.length_set]; exact S.len, fun j u q => ?_, fun j s q z => ?_, fun j k a h1 h2 h3 h4 => ?_, S.bt⟩, .refl, fun a z => .inl (ow a z), fun j u q => ?_, fun j u q => ?_, by rw [List.length_set]⟩
  · rcases set_get q with ⟨e, hl, e2⟩ | ⟨ne, q⟩
    · cases e2; subst e
      exact ⟨v, List.getElem?_set_self (by rw [← S.len]; exact hl), h.le m⟩
    · obtain ⟨w, h1, h2⟩ := S.sh j u q
      refine ⟨w, ?_, h2.le m⟩
      by_cases e : i = j
      · subst e
        have : ¬ i < env.length := fun z => ne ⟨rfl, z⟩
        have := (List.getElem?_eq_some_iff.mp q).1
        omega
      · rw [List.getElem?_set_ne e]; exact h1
  · rcases set_get q with ⟨_, _, e2⟩ | ⟨ne, q⟩
    · cases e2; exact z.elim
    · obtain ⟨b, h1, h2, h3⟩ := S.ow j s q z
      refine ⟨b, ?_, h2.le m rfl, h3⟩
      by_cases e : i = j
      · subst e
        have : ¬ i < env.length := fun z => ne ⟨rfl, z⟩
        have := (List.getElem?_eq_some_iff.mp q).1
        omega
      · rw [List.getElem?_set_ne e]; exact h1
  · have key : ∀ n, isOwn (env.set i (.sh t))[n]? → (σ.set i (some v))[n]? = some (some (V.ref a)) → isOwn env[n]? ∧ σ[n]? = some (some (V.ref a)) := fun n k1 k2 => by
      rcases set_get (env := env) (i := i) (j := n) (s := .sh t) rfl with ⟨_, _, q⟩ | ⟨e, q⟩
      · rw [q] at k1; exact k1.elim
      · rcases set_get' k2 with ⟨e', hl, _⟩ | ⟨_, q2⟩
        · exact absurd ⟨e', by rw [S.len]; exact hl⟩ e
        · exact ⟨by rw [q]; exact k1, q2⟩
    obtain ⟨a1, a2⟩ := key j h1 h3
    obtain ⟨b1, b2⟩ := key k h2 h4
    exact S.ds j k a a1 b1 a2 b2
  · have e : i ≠ j := fun e => hi u (e ▸ q)
    exact ⟨⟨u, by rw [List.getElem?_set_ne e]; exact q⟩, List.getElem?_set_ne e⟩
  · rcases set_get q with ⟨_, _, e2⟩ | ⟨_, q⟩
    · cases e2
    · exact ⟨u, q⟩
/-- a name bound to a new list -/
theorem SPo.bindO {i : Nat} {p : Addr} (S : Sim F K (fun a => B a ∨ a = p) env σ H) (h : Own F K (mask (MK (fun a => B a ∨ a = p) env σ) H) H p t) (hp : ¬ B p) (hn : H1 p = none) (hi : ∀ u, env[i]? ≠ some (.io u)) : ∃ env', env' = env.set i (.ow t) ∧ Sim F K B env' (σ.set i (some (.ref p))) H ∧ (∀ a, ownA env' (σ.set i (some (.ref p))) a → ownA env σ a ∨ H1 a = none) ∧
    (∀ (j : Nat) (u : T), env[j]? = some (.io u) → (∃ t', env'[j]? = some (.io t')) ∧ (σ.set i (some (V.ref p)))[j]? = σ[j]?) ∧ (∀ (j : Nat) (u : T), env'[j]? = some (.io u) → ∃ t', env[j]? = some (.io t')) := by
  refine ⟨_, rfl, ?_⟩
  have nown : ¬ ownA env σ p := fun ⟨j, z1, z2⟩ => by
    obtain ⟨s, q, z⟩ := getElem_of_isOwn z1
    obtain ⟨b, e1, _, e3⟩ := S.ow j s q z
    rw [z2] at e1; cases e1
    exact e3 (.inr rfl)
  have key : ∀ {a : Addr} {n : Nat}, isOwn (env.set i (.ow t))[n]? → (σ.set i (some (V.ref p)))[n]? = some (some (V.ref a)) → (n = i ∧ a = p) ∨ (n ≠ i ∧ isOwn env[n]? ∧ σ[n]? = some (some (V.ref a))) := fun {a n} k1 k2 => by
    rcases set_get (env := env) (i := i) (j := n) (s := .ow t) rfl with ⟨e, hl, q⟩ | ⟨e, q⟩
    · subst e
      rw [List.getElem?_set_self (by rw [← S.len]; exact hl)] at k2
      cases k2; exact .inl ⟨rfl, rfl⟩
    · rcases set_get' k2 with ⟨e', hl, _⟩ | ⟨_, q2⟩
      · exact absurd ⟨e', by rw [S.len]; exact hl⟩ e
      · have k1' : isOwn env[n]? := by rw [q]; exact k1
        refine .inr ⟨fun z => ?_, k1', q2⟩
        subst z
        obtain ⟨s, q3, _⟩ := getElem_of_isOwn k1'
        exact e ⟨rfl, (List.getElem?_eq_some_iff.mp q3).1⟩
  have m : Hle (mask (MK (fun a => B a ∨ a = p) env σ) H) (mask (MK B (env.set i (.ow t)) (σ.set i (some (.ref p)))) H) := fun a u q => by
    obtain ⟨h1, h2⟩ := mask_some.mp q
    refine mask_some.mpr ⟨fun z => h1 ?_, h2⟩
    rcases z with z | ⟨n, z1, z2⟩
    · exact .inl (.inl z)
    · rcases key z1 z2 with ⟨_, rfl⟩ | ⟨_, k1, k2⟩
      · exact .inl (.inr rfl)
      · exact .inr ⟨n, k1, k2⟩
  refine ⟨⟨by rw [List.length_set, List.length_set]; exact S.len, fun j u q => ?_, fun j s q z => ?_, fun j k a h1 h2 h3 h4 => ?_, fun a z => S.bt a (.inl z)⟩, fun a ⟨n, z1, z2⟩ => ?_, fun j u q => ?_, fun j u q => ?_⟩
  · rcases set_get q with ⟨_, _, e2⟩ | ⟨ne, q⟩
    · cases e2
    · obtain ⟨w, h1, h2⟩ := S.sh j u q
      refine ⟨w, ?_, h2.le m⟩
      by_cases e : i = j
      · subst e
        have : ¬ i < env.length := fun z => ne ⟨rfl, z⟩
        have := (List.getElem?_eq_some_iff.mp q).1
        omega
      · rw [List.getElem?_set_ne e]; exact h1
  · rcases set_get q with ⟨e, hl, e2⟩ | ⟨ne, q⟩
    · cases e2; subst e
      exact ⟨p, List.getElem?_set_self (by rw [← S.len]; exact hl), h.le m rfl, hp⟩
    · obtain ⟨b, h1, h2, h3⟩ := S.ow j s q z
      refine ⟨b, ?_, h2.le m rfl, fun z => h3 (.inl z)⟩
      by_cases e : i = j
      · subst e
        have : ¬ i < env.length := fun z => ne ⟨rfl, z⟩
        have := (List.getElem?_eq_some_iff.mp q).1
        omega
      · rw [List.getElem?_set_ne e]; exact h1
  · rcases key h1 h3 with ⟨e1, e2⟩ | ⟨e1, k1, k2⟩
    · rcases key h2 h4 with ⟨e3, _⟩ | ⟨_, k3, k4⟩
      · rw [e1, e3]
      · subst e2; exact absurd ⟨k, k3, k4⟩ nown
    · rcases key h2 h4 with ⟨_, e4⟩ | ⟨_, k3, k4⟩
      · subst e4; exact absurd ⟨j, k1, k2⟩ nown
      · exact S.ds j k a k1 k3 k2 k4
  · rcases key z1 z2 with ⟨_, rfl⟩ | ⟨_, k1, k2⟩
    · exact .inr hn
    · exact .inl ⟨n, k1, k2⟩
  · have e : i ≠ j := fun e => hi u (e ▸ q)
    exact ⟨⟨u, by rw [List.getElem?_set_ne e]; exact q⟩, List.getElem?_set_ne e⟩
  · rcases set_get q with ⟨_, _, e2⟩ | ⟨_, q⟩
    · cases e2
    · exact ⟨u, q⟩
/-- a list of one's own is changed -/
theorem Sim.chg {i : Nat} {s s' : Sl} {p : Addr} {ts' : List T} {vs' : List V} (S : Sim F K B env σ H) (h : env[i]? = some s) (ho : isOwn (some s)) (hv : σ[i]? = some (some (.ref p))) (hr : RpL F K (mask (MK B env σ) H) ts' vs') (hl : vs'.length ≤ sizeLine)
    (hs : (∃ t, s = .ow t ∧ s' = .ow (.lst ts')) ∨ ∃ t, s = .io t ∧ s' = .io (.lst ts')) :
    Sim F K B (env.set i s') σ (upd H p (.lst vs')) ∧ Frm env σ H (upd H p (.lst vs')) ∧ Le env (env.set i s') := by
  have ho' : isOwn (some s') := by rcases hs with ⟨_, _, rfl⟩ | ⟨_, _, rfl⟩ <;> trivial
  have hc : cont s' = .lst ts' := by rcases hs with ⟨_, _, rfl⟩ | ⟨_, _, rfl⟩ <;> rfl
  have hil : i < env.length := (List.getElem?_eq_some_iff.mp h).1
  have hown : ownA env σ p := ⟨i, by rw [h]; exact ho, hv⟩
  have iff1 : ∀ j, isOwn (env.set i s')[j]? ↔ isOwn env[j]? := fun j => by
    by_cases e : i = j
    · subst e
      rw [List.getElem?_set_self hil, h]
      exact ⟨fun _ => ho, fun _ => ho'⟩
    · rw [List.getElem?_set_ne e]
  have iff2 : ∀ a, ownA (env.set i s') σ a ↔ ownA env σ a := fun a => ⟨fun ⟨j, z1, z2⟩ => ⟨j, (iff1 j).mp z1, z2⟩, fun ⟨j, z1, z2⟩ => ⟨j, (iff1 j).mpr z1, z2⟩⟩
  have m : Hle (mask (MK B env σ) H) (mask (MK B (env.set i s') σ) (upd H p (.lst vs'))) := fun a u q => by
    obtain ⟨h1, h2⟩ := mask_some.mp q
    refine mask_some.mpr ⟨fun z => h1 (z.elim .inl fun z => .inr ((iff2 a).mp z)), ?_⟩
    have e : a ≠ p := fun e => h1 (.inr (by rw [e]; exact hown))
    rw [upd_ne e]
    exact h2
  refine ⟨⟨by rw [List.length_set]; exact S.len, fun j u q => ?_, fun j u q z => ?_, fun j k a h1 h2 h3 h4 => S.ds j k a ((iff1 j).mp h1) ((iff1 k).mp h2) h3 h4, fun a z => ?_⟩, ⟨fun a u q n => ?_, fun a q => ?_⟩, ⟨by rw [List.length_set], fun j z => (iff1 j).mp z, fun j u q => ?_, fun j u q => ?_⟩⟩
  · rcases set_get q with ⟨_, _, e2⟩ | ⟨_, q⟩
    · cases e2; exact ho'.elim
    · obtain ⟨w, h1, h2⟩ := S.sh j u q
      exact ⟨w, h1, h2.le m⟩
  · rcases set_get q with ⟨e, _, e2⟩ | ⟨ne, q⟩
    · cases e2; subst e
      obtain ⟨b, e1, _, e3⟩ := S.ow i s h ho
      rw [hv] at e1; cases e1
      refine ⟨p, hv, ?_, e3⟩
      rw [hc]
      exact ⟨vs', upd_same, hl, hr.le m⟩
    · obtain ⟨b, h1, h2, h3⟩ := S.ow j u q z
      have hjp : b ≠ p := fun e => by
        subst e
        exact ne ⟨S.ds i j b (by rw [h]; exact ho) (by rw [q]; exact z) hv h1, hil⟩
      exact ⟨b, h1, h2.le m (by rw [upd_ne hjp]), h3⟩
  · by_cases e : a = p
    · subst e; rw [upd_same]; exact fun z => nomatch z
    · rw [upd_ne e]; exact S.bt a z
  · have e : a ≠ p := fun e => n (by rw [e]; exact hown)
    rw [upd_ne e]; exact q
  · by_cases e : a = p
    · subst e; rw [upd_same] at q; cases q
    · rw [upd_ne e] at q; exact q
  · by_cases e : i = j
    · subst e
      rw [h] at q
      rcases hs with ⟨t, rfl, _⟩ | ⟨t, rfl, rfl⟩
      · cases q
      · exact ⟨_, List.getElem?_set_self hil⟩
    · exact ⟨u, by rw [List.getElem?_set_ne e]; exact q⟩
  · rcases set_get q with ⟨e, _, e2⟩ | ⟨_, q⟩
    · subst e
      rcases hs with ⟨t, rfl, rfl⟩ | ⟨t, rfl, rfl⟩
      · cases e2
      · exact ⟨t, h⟩
    · exact ⟨u, q⟩
end
end Ev

set_option Elab.async false
set_option linter.all false
set_option maxRecDepth 100000
set_option autoImplicit false
namespace Ev
open PySem PySem.Spec PyProof.Rows L2
open Classical
section
variable {F : Nat → Addr} {K : PySem.W.Frag} {X : Cx} {B B' B1 B2 : Addr → Prop} {env env' env0 env1 env2 : Env} {σ σ' σ1 σ2 : L2.St} {H H' H0 H1 H2 H3 Hm : Hp} {v w : V} {x y o : Opd} {t : T} {e a b c : Expr} {pos : Pos} {rest : List Expr} {i : Nat}
theorem mine_ok {t : T} : mine i env = .ok t env' ↔ env = env' ∧ ∃ s, env[i]? = some s ∧ isOwn (some s) ∧ cont s = t := by
  unfold mine
  have hd : env.getD i .un = (env[i]?).getD .un := by simp [List.getD]
  rw [hd]
  cases h : env[i]? with
  | none => exact ⟨fun z => (nomatch z), fun ⟨_, s, h1, _⟩ => nomatch h1⟩
  | some s =>
    cases s with
    | un => exact ⟨fun z => (nomatch z), fun ⟨_, s, h1, h2, _⟩ => by cases h1; exact h2.elim⟩
    | sh t' => exact ⟨fun z => (nomatch z), fun ⟨_, s, h1, h2, _⟩ => by cases h1; exact h2.elim⟩
    | ow t' => exact ⟨fun z => by cases z; exact ⟨rfl, _, rfl, trivial, rfl⟩, fun ⟨h0, s, h1, h2, h3⟩ => by cases h1; subst h0; subst h3; rfl⟩
    | io t' => exact ⟨fun z => by cases z; exact ⟨rfl, _, rfl, trivial, rfl⟩, fun ⟨h0, s, h1, h2, h3⟩ => by cases h1; subst h0; subst h3; rfl⟩
theorem chg_ok {t : T} {u : Unit} (h : chg i t env = .ok u env') : ∃ s s', env[i]? = some s ∧ isOwn (some s) ∧ env' = env.set i s' ∧ ((∃ t0, s = .ow t0 ∧ s' = .ow t) ∨ ∃ t0, s = .io t0 ∧ s' = .io t) := by
  unfold chg at h
  split at h
  · rename_i t0 q
    cases h
    exact ⟨_, _, (getD_of (s := .ow t0) (fun z => nomatch z)).mp q, trivial, rfl, .inl ⟨t0, rfl, rfl⟩⟩
  · rename_i t0 q
    cases h
    exact ⟨_, _, (getD_of (s := .io t0) (fun z => nomatch z)).mp q, trivial, rfl, .inr ⟨t0, rfl, rfl⟩⟩
  · cases h
/-- a list of one's own, laid -/
theorem Sim.mine {ts : List T} (S : Sim F K B env σ H) (h : Ev.mine i env = .ok (.lst ts) env') : env' = env ∧ ∃ a vs, σ[i]? = some (some (.ref a)) ∧ H a = some (.lst vs) ∧ vs.length ≤ sizeLine ∧ RpL F K (mask (MK B env σ) H) ts vs ∧ ¬ B a := by
  obtain ⟨rfl, s, h1, h2, h3⟩ := mine_ok.mp h
  obtain ⟨a, e1, e2, e3⟩ := S.ow i s h1 h2
  rw [h3] at e2
  obtain ⟨vs, k1, k2, k3⟩ := e2
  exact ⟨rfl, a, vs, e1, k1, k2, k3, e3⟩
theorem Sim.mineA {t : T} (S : Sim F K B env σ H) (h : Ev.mine i env = .ok t env') : env' = env ∧ ∃ a vs, σ[i]? = some (some (.ref a)) ∧ H a = some (.lst vs) := by
  obtain ⟨rfl, s, h1, h2, h3⟩ := mine_ok.mp h
  obtain ⟨vs, k⟩ := S.own_lst (a := (S.ow i s h1 h2).choose) ⟨i, by rw [h1]; exact h2, (S.ow i s h1 h2).choose_spec.1⟩
  exact ⟨rfl, _, vs, (S.ow i s h1 h2).choose_spec.1, k⟩
/-- .. stored into -/
theorem Sim.put {ts' : List T} {vs' : List V} {a : Addr} {u : Unit} (S : Sim F K B env σ H) (h : Ev.chg i (.lst ts') env = .ok u env') (hv : σ[i]? = some (some (.ref a))) (hr : RpL F K (mask (MK B env σ) H) ts' vs') (hl : vs'.length ≤ sizeLine) :
    Sim F K B env' σ (upd H a (.lst vs')) ∧ Frm env σ H (upd H a (.lst vs')) ∧ Le env env' ∧ Hle (mask (MK B env σ) H) (mask (MK B env' σ) (upd H a (.lst vs'))) := by
  obtain ⟨s, s', h1, h2, rfl, h3⟩ := chg_ok h
  obtain ⟨k1, k2, k3⟩ := S.chg h1 h2 hv hr hl h3
  exact ⟨k1, k2, k3, mask_frm k3 k2⟩
theorem hfew_of {es : List Expr} {e : Expr} {cpos : Pos} {env : PySem.Env} (hs : starEach [e] env = [(false, eval e env)]) :
    ((backTo cpos (starEach [e] env)).all (fun x => !x.1) && (backToKw cpos (keywordEach [] env)).all (fun x => x.1.isSome) && decide (([e] : List Expr).length + ([] : List Keyword).length + (if ([] : List Keyword).isEmpty then 0 else 1) < 30)) = true := by
  rw [hs]; rfl
theorem one_of (h : ∀ x p, e ≠ .Starred x p) {env : PySem.Env} : starEach [e] env = [(false, eval e env)] := by rw [starEach_cons h]; rfl
theorem ee_app {m : M (T × Bool)} {x : Str} {p apos cpos : Pos} (hv : PE X (.Name x p) (tVar i)) (hs : ∀ x p, e ≠ .Starred x p) (hline : (apos.endLine == cpos.line) = true) (h : PE X e (fE F X.K m)) :
    PE X (.Call (.Attribute (.Name x p) "append" apos) [e] [] cpos) (fE F X.K (do
      let _ ← mine i
      let (x, _) ← m
      match ← mine i with
      | .lst xs => do
        need (decide (xs.length < LIM))
        chg i (.lst (xs ++ [x]))
        M.pure (.non, false)
      | _ => fail)) := by
  have h1 := one_of hs (env := X.env)
  refine (pe_bm PySem.F.plainAttrs_list PySem.F.slot_list_append PySem.F.type_list_append mt_append hv (pa_cons h pa_nil (by rw [h1]; rfl)) rfl (hfew_of (es := []) h1) hline (by rw [h1]; rfl) rfl).imp
    fun σ H Q ⟨B, env, S, r, env', h0, q⟩ => ?_
  obtain ⟨t0, env0, a0, b0⟩ := bind_ok.mp h0
  obtain ⟨z, env1, a1, b1⟩ := bind_ok.mp b0
  obtain ⟨t2, env2, a2, b2⟩ := bind_ok.mp b1
  obtain ⟨e0, a, vs0, hv0, hH0⟩ := S.mineA a0
  subst e0
  refine ⟨.ref a, hv0, .inl ⟨rfl, vs0, .inl (.inl hH0)⟩, B, env0, S, z, env1, a1, fun y H1 p1 => ?_⟩
  obtain ⟨f1, l1, B1, e1, S1, r1, _⟩ := p1.val S (opd_cases z)
  have S1 := S1.less e1.1
  have r1 : Rp F X.K (mask (MK B env1 σ) H1) z.1 y := Rp.le (mask_B e1.1) r1
  cases t2 with
  | lst xs =>
    obtain ⟨e2, a', vs, k1, k2, k3, k4, k5⟩ := S1.mine a2
    subst e2
    rw [hv0] at k1; cases k1
    obtain ⟨u3, env3, a3, b3⟩ := bind_ok.mp b2
    obtain ⟨c3, e3⟩ := need_ok.mp a3
    subst e3
    obtain ⟨u4, env4, a4, b4⟩ := bind_ok.mp b3
    obtain ⟨rfl, rfl⟩ := pure_ok.mp b4
    have hlt : vs.length < sizeLine := by rw [← k4.len]; exact Nat.lt_of_lt_of_le (of_decide_eq_true c3) lim_line
    obtain ⟨m1, m2, m3, m4⟩ := S1.put a4 hv0 (k4.append (.one r1)) (by rw [List.length_append]; exact hlt)
    exact ⟨a, vs, y, rfl, rfl, k2, hlt, q .non _ (.mk (f1.trans l1 m2) (l1.trans m3) m1 (by simp [Rp]))⟩
  | _ => cases b2
theorem ee_ext {m : M (T × Bool)} {x : Str} {p apos cpos : Pos} (hv : PE X (.Name x p) (tVar i)) (hs : ∀ x p, e ≠ .Starred x p) (hline : (apos.endLine == cpos.line) = true) (h : PE X e (fE F X.K m)) :
    PE X (.Call (.Attribute (.Name x p) "extend" apos) [e] [] cpos) (fE F X.K (do
      let _ ← mine i
      let (x, _) ← m
      let ys ← lift (lstOf x)
      match ← mine i with
      | .lst xs => do
        need (decide (xs.length + ys.length ≤ LIM))
        chg i (.lst (xs ++ ys))
        M.pure (.non, false)
      | _ => fail)) := by
  have h1 := one_of hs (env := X.env)
  refine (pe_bm PySem.F.plainAttrs_list PySem.F.slot_list_extend PySem.F.type_list_extend mt_extend hv (pa_cons h pa_nil (by rw [h1]; rfl)) rfl (hfew_of (es := []) h1) hline (by rw [h1]; rfl) rfl).imp
    fun σ H Q ⟨B, env, S, r, env', h0, q⟩ => ?_
  obtain ⟨t0, env0, a0, b0⟩ := bind_ok.mp h0
  obtain ⟨z, env1, a1, b1⟩ := bind_ok.mp b0
  obtain ⟨ys, env9, a9, b9⟩ := bind_ok.mp b1
  obtain ⟨c9, e9⟩ := lift_ok.mp a9
  subst e9
  obtain ⟨t2, env2, a2, b2⟩ := bind_ok.mp b9
  obtain ⟨e0, a, vs0, hv0, hH0⟩ := S.mineA a0
  subst e0
  refine ⟨.ref a, hv0, .inl ⟨rfl, vs0, .inl (.inl hH0)⟩, B, env0, S, z, env1, a1, fun y H1 p1 => ?_⟩
  obtain ⟨f1, l1, B1, e1, S1, r1, _⟩ := p1.val S (opd_cases z)
  have S1 := S1.less e1.1
  have r1 : Rp F X.K (mask (MK B env1 σ) H1) z.1 y := Rp.le (mask_B e1.1) r1
  cases hz : z.1 with
  | lst zs =>
    rw [hz] at c9 r1
    cases c9
    simp only [Rp] at r1
    obtain ⟨b, ws, rfl, w1, w2, w3⟩ := r1
    cases t2 with
    | lst xs =>
      obtain ⟨e2, a', vs, k1, k2, k3, k4, k5⟩ := S1.mine a2
      subst e2
      rw [hv0] at k1; cases k1
      obtain ⟨u3, env3, a3, b3⟩ := bind_ok.mp b2
      obtain ⟨c3, e3⟩ := need_ok.mp a3
      subst e3
      obtain ⟨u4, env4, a4, b4⟩ := bind_ok.mp b3
      obtain ⟨rfl, rfl⟩ := pure_ok.mp b4
      have hlt : vs.length + ws.length ≤ sizeLine := by rw [← k4.len, ← w3.len]; exact Nat.le_trans (of_decide_eq_true c3) lim_line
      obtain ⟨m1, m2, m3, m4⟩ := S1.put a4 hv0 (k4.append w3) (by rw [List.length_append]; exact hlt)
      exact ⟨a, b, vs, ws, rfl, rfl, k2, mask_le _ _ w1, hlt, q .non _ (.mk (f1.trans l1 m2) (l1.trans m3) m1 (by simp [Rp]))⟩
    | _ => cases b2
  | _ => rw [hz] at c9; cases c9
theorem RpL.erase : ∀ {ts : List T} {vs : List V} (n : Nat), RpL F K Hm ts vs → RpL F K Hm (ts.eraseIdx n) (vs.eraseIdx n)
  | [], _, _, h => by simp only [RpL] at h; subst h; simp [RpL]
  | t :: ts, vs, 0, h => by
    simp only [RpL] at h
    obtain ⟨v, r, rfl, h1, h⟩ := h
    exact h
  | t :: ts, vs, n + 1, h => by
    simp only [RpL] at h
    obtain ⟨v, r, rfl, h1, h⟩ := h
    simp only [List.eraseIdx_cons_succ, RpL]
    exact ⟨v, _, rfl, h1, RpL.erase n h⟩
def popM (i : Nat) (mi : M (Option Int)) : M (T × Bool) := do
    let _ ← mine i
    let j ← mi
    match ← mine i with
    | .lst xs => do
      let k ← lift (L2.ixN xs.length (j.getD (-1)))
      let y ← lift xs[k]?
      chg i (.lst (xs.eraseIdx k))
      M.pure (y, false)
    | _ => fail
theorem eraseIdx_last {α : Type} : ∀ (xs : List α), xs.eraseIdx (xs.length - 1) = xs.dropLast
  | [] => rfl
  | [x] => rfl
  | x :: y :: r => by
    have := eraseIdx_last (y :: r)
    simp only [List.length_cons] at this ⊢
    rw [show r.length + 1 + 1 - 1 = (r.length + 1 - 1) + 1 by omega, List.eraseIdx_cons_succ, this]
    rfl
theorem ee_pop0 {x : Str} {p apos cpos : Pos} (hv : PE X (.Name x p) (tVar i)) (hline : (apos.endLine == cpos.line) = true) :
    PE X (.Call (.Attribute (.Name x p) "pop" apos) [] [] cpos) (fE F X.K (popM i (M.pure none))) := by
  refine (pe_bm0 PySem.F.plainAttrs_list PySem.F.slot_list_pop PySem.F.type_list_pop mt_pop hv rfl hline).imp fun σ H Q ⟨B, env, S, r, env', h0, q⟩ => ?_
  obtain ⟨t0, env0, a0, b0⟩ := bind_ok.mp h0
  obtain ⟨z, env1, a1, b1⟩ := bind_ok.mp b0
  obtain ⟨rfl, e1⟩ := pure_ok.mp a1
  subst e1
  obtain ⟨t2, env2, a2, b2⟩ := bind_ok.mp b1
  obtain ⟨e0, a, vs0, hv0, hH0⟩ := S.mineA a0
  subst e0
  refine ⟨.ref a, hv0, .inl ⟨rfl, vs0, .inl (.inl hH0)⟩, ?_⟩
  cases t2 with
  | lst xs =>
    obtain ⟨e2, a', vs, k1, k2, k3, k4, k5⟩ := S.mine a2
    subst e2
    rw [hv0] at k1; cases k1
    obtain ⟨k, env3, a3, b3⟩ := bind_ok.mp b2
    obtain ⟨c3, e3⟩ := lift_ok.mp a3
    subst e3
    obtain ⟨y, env4, a4, b4⟩ := bind_ok.mp b3
    obtain ⟨c4, e4⟩ := lift_ok.mp a4
    subst e4
    obtain ⟨u5, env5, a5, b5⟩ := bind_ok.mp b4
    obtain ⟨rfl, rfl⟩ := pure_ok.mp b5
    obtain ⟨w, d1, d2⟩ := k4.get c4
    have hk : k = vs.length - 1 ∧ k < vs.length := by
      have hc : L2.ixN xs.length (-1) = some k := c3
      obtain ⟨_, h2, _, _⟩ := ixN_seq hc
      unfold L2.ixN at hc
      rw [k4.len] at hc h2
      rw [if_neg (by omega)] at hc
      split at hc
      · cases hc; exact ⟨by omega, by omega⟩
      · cases hc
    obtain ⟨m1, m2, m3, m4⟩ := S.put a5 hv0 (k4.erase k) (Nat.le_trans (List.length_eraseIdx_le _ _) k3)
    have hd : vs.eraseIdx k = vs.dropLast := by rw [hk.1]; exact eraseIdx_last vs
    rw [hd] at m1 m2 m4
    exact ⟨a, vs, w, rfl, rfl, k2, by rw [← hk.1]; exact d1, q w _ (.mk m2 m3 m1 (d2.le m4))⟩
  | _ => cases b2
theorem ee_pop1 {ma : M Opd} {x : Str} {p apos cpos : Pos} (hv : PE X (.Name x p) (tVar i)) (hs : ∀ x p, e ≠ .Starred x p) (hline : (apos.endLine == cpos.line) = true) (h : PE X e (fO F X.K ma)) :
    PE X (.Call (.Attribute (.Name x p) "pop" apos) [e] [] cpos) (fE F X.K (popM i (do let x ← ma; let x ← res x; let i ← lift (asInt x); M.pure (some i)))) := by
  have h1 := one_of hs (env := X.env)
  refine (pe_bm PySem.F.plainAttrs_list PySem.F.slot_list_pop PySem.F.type_list_pop mt_popAt hv (pa_cons h pa_nil (by rw [h1]; rfl)) rfl (hfew_of (es := []) h1) hline (by rw [h1]; rfl) rfl).imp
    fun σ H Q ⟨B, env, S, r, env', h0, q⟩ => ?_
  obtain ⟨t0, env0, a0, b0⟩ := bind_ok.mp h0
  obtain ⟨j, env1, a1, b1⟩ := bind_ok.mp b0
  obtain ⟨x1, env6, a6, b6⟩ := bind_ok.mp a1
  obtain ⟨t7, env7, a7, b7⟩ := bind_ok.mp b6
  obtain ⟨i8, env8, a8, b8⟩ := bind_ok.mp b7
  obtain ⟨c8, e8⟩ := lift_ok.mp a8
  subst e8
  obtain ⟨rfl, e8⟩ := pure_ok.mp b8
  subst e8
  obtain ⟨t2, env2, a2, b2⟩ := bind_ok.mp b1
  obtain ⟨e0, a, vs0, hv0, hH0⟩ := S.mineA a0
  subst e0
  refine ⟨.ref a, hv0, .inl ⟨rfl, vs0, .inl (.inl hH0)⟩, one S a6 fun y H1 B1 f1 l1 e1 S1 r1 => ?_⟩
  obtain ⟨e7, vx⟩ := r1.vr S1 a7
  subst e7
  have hy : y = .int i8 := by
    cases t7 with
    | int n => cases c8; exact vx
    | _ => cases c8
  have S1 := S1.less e1.1
  cases t2 with
  | lst xs =>
    obtain ⟨e2, a', vs, k1, k2, k3, k4, k5⟩ := S1.mine a2
    subst e2
    rw [hv0] at k1; cases k1
    obtain ⟨k, env3, a3, b3⟩ := bind_ok.mp b2
    obtain ⟨c3, e3⟩ := lift_ok.mp a3
    subst e3
    obtain ⟨y4, env4, a4, b4⟩ := bind_ok.mp b3
    obtain ⟨c4, e4⟩ := lift_ok.mp a4
    subst e4
    obtain ⟨u5, env5, a5, b5⟩ := bind_ok.mp b4
    obtain ⟨rfl, rfl⟩ := pure_ok.mp b5
    obtain ⟨w, d1, d2⟩ := k4.get c4
    have hc : L2.ixN xs.length i8 = some k := c3
    rw [k4.len] at hc
    obtain ⟨g1, g2, g3, g4⟩ := ixN_seq hc
    have hsl : sizeLine = 16777216 := sizeLine_eq
    obtain ⟨m1, m2, m3, m4⟩ := S1.put a5 hv0 (k4.erase k) (Nat.le_trans (List.length_eraseIdx_le _ _) k3)
    exact ⟨a, vs, i8, k, w, rfl, by rw [hy], k2, by omega, by omega, g1, d1, q w _ (.mk (f1.trans l1 m2) (l1.trans m3) m1 (d2.le m4))⟩
  | _ => cases b2
/-- index of a list -/
theorem ee_ixof {ma mb : M Opd} {apos cpos : Pos} (hu : X.A.units + 65 < cLine) (hbase : attributeBase a "index" X.env (eval a X.env) = eval a X.env) (hs : ∀ x p, e ≠ .Starred x p) (hline : (apos.endLine == cpos.line) = true)
    (ha : PE X a (fO F X.K ma)) (hb : PE X e (fO F X.K mb)) :
    PE X (.Call (.Attribute a "index" apos) [e] [] cpos) (fE F X.K (do
      let x ← ma
      let x0 ← res x
      let _ ← lift (lstOf x0)
      let y ← mb
      let x ← res x
      let y ← res y
      let xs ← lift (lstOf x)
      need (y.dat 60 && datAll 60 xs)
      let k ← lift (xs.findIdx? fun z => z.eqv y)
      M.pure (.int k, false))) := by
  have h1 := one_of hs (env := X.env)
  refine (pe_bm PySem.F.plainAttrs_list PySem.F.slot_list_index PySem.F.type_list_index (mt_indexD hu) ha (pa_cons hb pa_nil (by rw [h1]; rfl)) hbase (hfew_of (es := []) h1) hline (by rw [h1]; rfl) rfl).imp
    fun σ H Q ⟨B, env, S, r, env', h0, q⟩ => ?_
  obtain ⟨x, env1, a1, b1⟩ := bind_ok.mp h0
  obtain ⟨t0, env2, a2, b2⟩ := bind_ok.mp b1
  obtain ⟨l3, env3, a3, b3⟩ := bind_ok.mp b2
  obtain ⟨c3, e3⟩ := lift_ok.mp a3
  subst e3
  obtain ⟨y, env4, a4, b4⟩ := bind_ok.mp b3
  obtain ⟨t5, env5, a5, b5⟩ := bind_ok.mp b4
  obtain ⟨t6, env6, a6, b6⟩ := bind_ok.mp b5
  obtain ⟨xs, env7, a7, b7⟩ := bind_ok.mp b6
  obtain ⟨c7, e7⟩ := lift_ok.mp a7
  subst e7
  obtain ⟨u8, env8, a8, b8⟩ := bind_ok.mp b7
  obtain ⟨c8, e8⟩ := need_ok.mp a8
  subst e8
  obtain ⟨k, env9, a9, b9⟩ := bind_ok.mp b8
  obtain ⟨c9, e9⟩ := lift_ok.mp a9
  subst e9
  obtain ⟨rfl, rfl⟩ := pure_ok.mp b9
  refine one S a1 fun v H1 B1 f1 l1 e1 S1 r1 => ?_
  obtain ⟨g2, vx⟩ := r1.vr S1 a2
  subst g2
  have hty : tyV X.K "list" v H1 := by
    cases t0 with
    | lst zs =>
      obtain ⟨p, vs, rfl, h1, _⟩ := vx
      exact .inl ⟨rfl, vs, .inl (.inl h1)⟩
    | _ => cases c3
  refine ⟨hty, one S1 a4 fun w H2 B2 f2 l2 e2 S2 r2 => ?_⟩
  obtain ⟨g5, vx2⟩ := (r1.step S1 l2 f2 e2).vr S2 a5
  subst g5
  obtain ⟨g6, vy⟩ := r2.vr S2 a6
  subst g6
  rw [Bool.and_eq_true] at c8
  cases t5 with
  | lst zs =>
    cases c7
    obtain ⟨p, vs, rfl, k1, k2, k3⟩ := vx2
    have hd1 : Dp X.K H2 (.ref p) (.list (toDs xs)) := .lst (.inl (.inl k1)) (datL_dp c8.2 (k3.le mask_le))
    have hd2 : Dp X.K H2 w t6.toD := dat_dp c8.1 (vr_full mask_le vy)
    have hl := datL_lay c8.2
    have hsh : SeqAt.shaped (.list (toDs xs)) = true := by
      unfold SeqAt.shaped
      simp only [PyData.canLay0, PyData.depth, hl.1, Bool.true_and]
      exact decide_eq_true (by omega)
    obtain ⟨hk1, hk2, hk3⟩ := List.findIdx?_eq_some_iff_getElem.mp c9
    have tget : ∀ (ys : List T) (j : Nat), (toDs ys)[j]? = ys[j]?.map T.toD := by
      intro ys
      induction ys with
      | nil => intro j; simp [toDs]
      | cons y ys ih => intro j; cases j with
        | zero => simp [toDs]
        | succ j => simp only [toDs, List.getElem?_cons_succ]; exact ih j
    refine ⟨p, w, t6.toD, toDs xs, k, xs[k].toD, rfl, rfl, hd1, hd2, hsh, dat_shaped c8.1, ?_, hk2, fun m z' hm hz => ?_, q _ H2 (.mk (f1.trans l1 f2) (l1.trans l2) (S2.less fun a h => e2.1 a (e1.1 a h)) (by simp [Rp]))⟩
    · rw [tget, List.getElem?_eq_getElem hk1]; rfl
    · rw [tget] at hz
      obtain ⟨y', hy, rfl⟩ := Option.map_eq_some_iff.mp hz
      have hm2 : m < xs.length := (List.getElem?_eq_some_iff.mp hy).1
      rw [List.getElem?_eq_getElem hm2] at hy
      cases hy
      have := hk3 m hm
      show (xs[m].eqv t6) = false
      simpa using this
  | _ => cases c7
end
end Ev

set_option Elab.async false
set_option linter.all false
set_option maxRecDepth 100000
set_option autoImplicit false
namespace Ev
open PySem PySem.Spec PyProof.Rows L2
open Classical
section
variable {F : Nat → Addr} {K : PySem.W.Frag} {X : Cx} {B B' B1 B2 : Addr → Prop} {env env' env0 env1 env2 : Env} {σ σ' σ1 σ2 : L2.St} {H H' H0 H1 H2 H3 Hm : Hp} {v w : V} {x y o : Opd} {t : T} {e a b c : Expr} {pos : Pos} {rest : List Expr} {i : Nat}
/-! ### targets -/
/-- only these slots are bound -/
def Stp (vs : Nat → Prop) (env env' : Env) (σ σ' : L2.St) : Prop := ∀ i : Nat, ¬ vs i → σ'[i]? = σ[i]? ∧ (isOwn env'[i]? → isOwn env[i]?)
theorem Stp.of {vs : Nat → Prop} (l : Le env env') : Stp vs env env' σ σ := fun i _ => ⟨rfl, l.2.1 i⟩
theorem Stp.trans {vs : Nat → Prop} (h : Stp vs env env1 σ σ1) (h' : Stp vs env1 env2 σ1 σ2) : Stp vs env env2 σ σ2 := fun i n => ⟨(h' i n).1.trans (h i n).1, fun z => (h i n).2 ((h' i n).2 z)⟩
def fG (F : Nat → Addr) (K : PySem.W.Frag) (sl : Nat → Prop) (g : T × Bool → M Unit) : TG := fun v σ H Q => ∃ B env0 env H0 r, Sim F K B env0 σ H0 ∧ Pst F K B env0 env σ H0 (opd r) v H ∧ ∃ env', g r env = .ok () env' ∧ ∀ σ' H', SPo F K B env0 env' σ σ' H0 H' → Stp sl env0 env' σ σ' → Q σ' H'
def fGs (F : Nat → Addr) (K : PySem.W.Frag) (sl : Nat → Prop) (g : List T → M Unit) : TGs := fun vs σ H Q => ∃ B env ts, Sim F K B env σ H ∧ RpL F K (mask (MK B env σ) H) ts vs ∧ ∃ env', g ts env = .ok () env' ∧ ∀ σ' H', SPo F K B env env' σ σ' H H' → Stp sl env env' σ σ' → Q σ' H'
/-- the answer as a step -/
theorem Pst.step (h : Pst F K B env0 env σ H0 o v H) : ∃ B', Ext B B' H0 ∧ SPo F K B env0 env σ σ H0 H := by
  obtain ⟨f, l, B', e, S, r, _⟩ := h
  exact ⟨B', e, .of (S.less e.1) f l⟩
theorem bnd_ok {fr : Bool} {u : Unit} (h : bnd i t fr env = .ok u env') : (∀ u, env[i]? ≠ some (.io u)) ∧ env' = env.set i (if fr then .ow t else .sh t) := by
  unfold bnd at h
  split at h
  · cases h
  · rename_i hn
    cases h
    refine ⟨fun u q => hn u ?_, rfl⟩
    exact (getD_of (s := .io u) (fun z => nomatch z)).mpr q
theorem eg_name {sl : Nat → Prop} (hsl : sl i) {x : Str} (h : PG X (.Name x pos) (gName i)) : PG X (.Name x pos) (fG F X.K sl fun r => bnd i r.1 (r.2 && isRef r.1)) := by
  refine h.imp fun v σ H Q ⟨B, env0, env, H0, r, S0, p, env', h0, q⟩ => ?_
  obtain ⟨hio, rfl⟩ := bnd_ok h0
  obtain ⟨f, l, B', e, S, rv, hn⟩ := p
  unfold opd at rv hn
  by_cases c : (r.2 && isRef r.1) = true
  · rw [if_pos c] at rv hn
    obtain ⟨p, rfl, hb, ho⟩ := rv
    obtain ⟨p', e1, hp0⟩ := hn _ rfl
    cases e1
    have hnb : ¬ B p := fun z => S0.bt p z hp0
    -- only p is avoided besides
    have S1 : Sim F X.K (fun a => B a ∨ a = p) env σ H := S.less fun a z => z.elim (e.1 a) fun z => z ▸ hb
    have ho1 : Own F X.K (mask (MK (fun a => B a ∨ a = p) env σ) H) H p r.1 := ho.le (mask_B fun a z => z.elim (e.1 a) fun z => z ▸ hb) rfl
    obtain ⟨env3, e3, k1, k2, k3, k4⟩ := SPo.bindO (i := i) S1 ho1 hnb hp0 hio
    rw [if_pos c] at q
    rw [← e3] at q
    refine q (σ.set i (some (.ref p))) H ⟨k1, f, fun a z => (k2 a z).elim (fun z => .inl (l.own z)) .inr, fun j u z => ?_, fun j u z => ?_, by rw [e3, List.length_set]; exact l.1⟩ (fun j nj => ?_)
    · obtain ⟨u', z'⟩ := l.2.2.1 j u z
      exact k3 j u' z'
    · obtain ⟨u', z'⟩ := k4 j u z
      exact l.2.2.2 j u' z'
    · have ne : i ≠ j := fun e => nj (e ▸ hsl)
      refine ⟨List.getElem?_set_ne ne, fun z => l.2.1 j ?_⟩
      rw [e3, List.getElem?_set_ne ne] at z; exact z
  · rw [if_neg c] at rv hn
    rw [if_neg c] at q
    have S1 := S.less e.1
    have st := SPo.bindV (i := i) (v := v) S1 (Rp.le (mask_B e.1) rv) hio
    refine q _ _ ((SPo.of S1 f l).trans st) fun j nj => ?_
    have ne : i ≠ j := fun e => nj (e ▸ hsl)
    refine ⟨List.getElem?_set_ne ne, fun z => l.2.1 j ?_⟩
    rw [List.getElem?_set_ne ne] at z; exact z
/-- the plain value of an answer -/
theorem Pst.plain {r : T × Bool} (S0 : Sim F K B env0 σ H0) (h : Pst F K B env0 env σ H0 (opd r) v H) : Frm env0 σ H0 H ∧ Le env0 env ∧ Sim F K B env σ H ∧ Rp F K (mask (MK B env σ) H) r.1 v := by
  obtain ⟨f, l, B', e, S, rv, hn⟩ := h.val S0 (opd_cases r)
  exact ⟨f, l, S.less e.1, Rp.le (mask_B e.1) rv⟩
theorem egs_nil {sl : Nat → Prop} : PGs X [] (fGs F X.K sl fun ts => match ts with | [] => M.pure () | _ => fail) := ⟨fun pins s σ H vs us Q I r ⟨B, env, ts, S, rv, env', h0, q⟩ => by
  refine pgs_nil.run pins s σ H vs us Q I r ?_
  cases ts with
  | nil =>
    obtain ⟨_, rfl⟩ := pure_ok.mp h0
    simp only [RpL] at rv
    exact ⟨rv, q σ H (.refl S) (.of .refl)⟩
  | cons t ts => cases h0⟩
theorem egs_cons {sl : Nat → Prop} {es : List Expr} {g : T × Bool → M Unit} {gs : List T → M Unit} (hs : (assignEach (e :: es) X.env).map (·.2) = assign e X.env :: (assignEach es X.env).map (·.2)) (h1 : PG X e (fG F X.K sl g)) (h2 : PGs X es (fGs F X.K sl gs)) :
    PGs X (e :: es) (fGs F X.K sl fun ts => match ts with | x :: xs => (do g (x, false); gs xs) | _ => fail) := ⟨fun pins s σ H vs us Q I rr ⟨B, env, ts, S, rv, env', h0, q⟩ => by
  refine (pgs_cons h1 h2 hs).run pins s σ H vs us Q I rr ?_
  cases ts with
  | nil => cases h0
  | cons t ts =>
    simp only [RpL] at rv
    obtain ⟨v, r, rfl, rv1, rv2⟩ := rv
    obtain ⟨u, env1, a1, b1⟩ := bind_ok.mp h0
    refine ⟨v, r, rfl, B, env, env, H, (t, false), S, .mk .refl .refl S rv1, env1, a1, fun σ1 H1 st1 sp1 => ?_⟩
    refine ⟨B, env1, ts, st1.sim, ?_, env', b1, fun σ2 H2 st2 sp2 => q σ2 H2 (st1.trans st2) (sp1.trans sp2)⟩
    refine rv2.le fun a u z => ?_
    obtain ⟨z1, z2⟩ := mask_some.mp z
    refine mask_some.mpr ⟨fun z3 => ?_, st1.frm.keep a u z2 fun z3 => z1 (.inr z3)⟩
    rcases z3 with z3 | z3
    · exact z1 (.inl z3)
    · rcases st1.own a z3 with z4 | z4
      · exact z1 (.inr z4)
      · rw [z4] at z2; cases z2⟩
theorem PG.or {t1 t2 : TG} (h1 : PG X e t1) (h2 : PG X e t2) : PG X e (fun v σ H Q => t1 v σ H Q ∨ t2 v σ H Q) := ⟨fun pins s σ H v u Q I r q => q.elim (h1.run pins s σ H v u Q I r) (h2.run pins s σ H v u Q I r)⟩
theorem eg_tup {sl : Nat → Prop} {es : List Expr} {k n : Nat} {gs : List T → M Unit} (hc : X.calm = true) (h : PGs X es (fGs F X.K sl gs)) (hl : ∀ ts env env', gs ts env = .ok () env' → ts.length = n)
    (hn : (assignEach es X.env).length = n) (hst : (assignEach es X.env).findIdx? (·.1) = none) : PG X (.Tuple es k pos) (fG F X.K sl fun r => match r.1 with
      | .tup xs => gs xs
      | .lst xs => gs xs
      | _ => fail) := by
  refine (PG.or (pg_tup hc h hn hst) (pg_unl hc h hn hst)).imp fun v σ H Q ⟨B, env0, env, H0, r, S0, p, env', h0, q⟩ => ?_
  obtain ⟨f, l, S, rv⟩ := p.plain S0
  have fin : ∀ σ' H', SPo F X.K B env env' σ σ' H H' → Stp sl env env' σ σ' → Q σ' H' := fun σ' H' st sp => q σ' H' ((SPo.of S f l).trans st) ((Stp.of l).trans sp)
  cases hr : r.1 with
  | tup xs =>
    simp only [hr] at h0
    rw [hr] at rv
    simp only [Rp] at rv
    obtain ⟨a, vs, rfl, k1, k2, k3⟩ := rv
    exact .inl ⟨a, vs, rfl, .inl (.inl (mask_le _ _ k1)), by rw [← k3.len]; exact hl _ _ _ h0, B, env, xs, S, k3, env', h0, fin⟩
  | lst xs =>
    simp only [hr] at h0
    rw [hr] at rv
    simp only [Rp] at rv
    obtain ⟨a, vs, rfl, k1, k2, k3⟩ := rv
    exact .inr ⟨a, vs, rfl, .inl (.inl (mask_le _ _ k1)), by rw [← k3.len]; exact hl _ _ _ h0, B, env, xs, S, k3, env', h0, fin⟩
  | _ => simp only [hr] at h0; cases h0
theorem eg_sub {sl : Nat → Prop} {x : Str} {p : Pos} {ma : M Opd} (hsl : ∀ l u s p, e ≠ .Slice l u s p) (hv : PE X (.Name x p) (tVar i)) (ha : PE X e (fO F X.K ma)) : PG X (.Subscript (.Name x p) e pos) (fG F X.K sl fun r => do
    let _ ← mine i
    let x ← ma
    let x ← res x
    let j ← lift (asInt x)
    match ← mine i with
    | .lst xs => do
      let k ← lift (L2.ixN xs.length j)
      chg i (.lst (xs.set k r.1))
    | _ => fail) := by
  refine (pg_sub hv ha set_list (ha := fun v => by cases e <;> first | rfl | exact absurd rfl (hsl _ _ _ _))).imp fun v σ H Q ⟨B, env0, env, H0, r, S0, p, env', h0, q⟩ => ?_
  obtain ⟨f, l, S, rv⟩ := p.plain S0
  obtain ⟨t9, env9, a9, b9⟩ := bind_ok.mp h0
  obtain ⟨e9, a, vs9, hw, hH9⟩ := S.mineA a9
  subst e9
  obtain ⟨x1, env1, a1, b1⟩ := bind_ok.mp b9
  obtain ⟨t2, env2, a2, b2⟩ := bind_ok.mp b1
  obtain ⟨j, env3, a3, b3⟩ := bind_ok.mp b2
  obtain ⟨c3, e3⟩ := lift_ok.mp a3
  subst e3
  obtain ⟨t4, env4, a4, b4⟩ := bind_ok.mp b3
  refine ⟨.ref a, hw, one S a1 fun y H1 B1 f1 l1 e1 S1 r1 => ?_⟩
  obtain ⟨g2, vx⟩ := r1.vr S1 a2
  subst g2
  have S1 := S1.less e1.1
  have hy : y = .int j := by
    cases t2 with
    | int n => cases c3; exact vx
    | _ => cases c3
  cases t4 with
  | lst xs =>
    obtain ⟨e4, a', vs, k1, k2, k3, k4, k5⟩ := S1.mine a4
    subst e4
    obtain ⟨k, env5, a5, b5⟩ := bind_ok.mp b4
    obtain ⟨c5, e5⟩ := lift_ok.mp a5
    subst e5
    rw [hw] at k1; cases k1
    have rv1 : Rp F X.K (mask (MK B env4 σ) H1) r.1 v := Rp.le (mask_frm l1 f1) rv
    obtain ⟨m1, m2, m3, m4⟩ := S1.put b5 hw (k4.set k rv1) (by rw [List.length_set]; exact k3)
    have c5' : L2.ixN vs.length j = some k := by rw [← k4.len]; exact c5
    exact ⟨_, vs, j, k, rfl, hy, k2, c5', q σ _ ((SPo.of S f l).trans (SPo.of m1 (f1.trans l1 m2) (l1.trans m3))) (.of (l.trans (l1.trans m3)))⟩
  | _ => cases b4
end
end Ev

set_option Elab.async false
set_option linter.all false
set_option maxRecDepth 100000
set_option maxHeartbeats 4000000
set_option autoImplicit false
/-! enumerate over a tuple -/
namespace PySem
open Sem (wp)
set_option maxHeartbeats 1000000 in
theorem meets_enumerate_new1 {v : Value} {o : Obj} {H : Heap → Prop} (B : Begins v o H) :
    Meets (Builtin.«enumerate.__new__» ⟨[.type "enumerate", v], []⟩) (fun _ R s => H s.heap ∧
      R (.ok (.ret (.ref (s.heap.push o).objs.size))) { s with heap := (s.heap.push o).push { cls := .type "enumerate", data := .fields #[.none, .bool false, .ref s.heap.objs.size, rawInt 0, .none, .none] } }) :=
  .of_wp fun prog w A R s h => by
    obtain ⟨hp, g, d, tk, os⟩ := s; obtain ⟨h1, h⟩ := h
    have hsub := sub_enumerate
    have q1 : ∀ {A' : Around} {E : Value → Shared → Prop} {Q : Value → Shared → Prop}, Q (.ref hp.objs.size) ⟨hp.push o, g, d, tk, os⟩ → wpAny (model prog w) A' (pyIter v) Q E ⟨hp, g, d, tk, os⟩ :=
      fun q => B.iter prog w _ _ ⟨hp, g, d, tk, os⟩ _ h1 q
    wp_walk using q1
    refine wpAny_stack_any fun st => wpAny_pure ?_
    split
    · rename_i c _ _ _ _ _
      cases (c == Value.type "enumerate")
      · wp_walk using q1
        exact ⟨_, rfl, h⟩
      · wp_walk using q1
        exact ⟨_, rfl, h⟩
    · wp_walk using q1
      exact ⟨_, rfl, h⟩
theorem call_enumerate_B {prog : Program} {w : World} {A : Around} {E : Value → Shared → Prop} {s : Shared} {v : Value} {o : Obj} {H : Heap → Prop} {Q : Value → Shared → Prop} (B : Begins v o H) (h1 : H s.heap)
    (h : ∀ h', IsEnum h' (s.heap.objs.size + 1) s.heap.objs.size 0 .none → h'.get? s.heap.objs.size = some o → h'.objs.size = s.heap.objs.size + 2 →
      (∀ b o, s.heap.get? b = some o → h'.get? b = some o) → Q (.ref (s.heap.objs.size + 1)) { s with heap := h' }) :
    wpAny (model prog w) A (call (.type "enumerate") [v]) Q E s := by
  refine callType_new F.called_enumerate (by decide) (F.typeCall_enumerate_1 _) (F.newCall_enumerate_1 _) (fun obj => F.args_object_init_2 obj _) F.entry_enumerate_new
    (meets_enumerate_new1 B) ⟨h1, ?_⟩
  have hz : (s.heap.push o).objs.size = s.heap.objs.size + 1 := Heap.size_push ..
  show _ ∧ _
  rw [hz]
  have he : IsEnum ((s.heap.push o).push { cls := .type "enumerate", data := .fields #[.none, .bool false, .ref s.heap.objs.size, rawInt 0, .none, .none] }) (s.heap.objs.size + 1) s.heap.objs.size 0 .none := by
    have := Heap.get?_push_size (s.heap.push o) (o := { cls := .type "enumerate", data := .fields #[.none, .bool false, .ref s.heap.objs.size, rawInt 0, .none, .none] }) rfl
    rw [hz] at this; exact this
  refine ⟨⟨_, he, rfl⟩, h _ he (Heap.get?_push_of_some _ (Heap.get?_push_size _ B.free)) (by rw [Heap.size_push, hz]) fun b o x => Heap.get?_push_of_some _ (Heap.get?_push_of_some _ x)⟩
end PySem
namespace Ev
open PySem PySem.Spec PyProof.Rows L2
/-- the tuple at a, each item in a new pair -/
def IteT (K : PySem.W.Frag) (a : Addr) : L2.It :=
  ⟨fun i H => ∃ (xs : List V) (x : V), SqT K H a xs ∧ xs[i]? = some x, fun i H v H' => ∃ T x, v = .ref T ∧ H T = none ∧ H' = upd H T (.tup [.int (i : Nat), x]) ∧ ∀ xs, SqT K H a xs → xs[i]? = some x, fun i H => ∃ xs : List V, SqT K H a xs ∧ xs.length ≤ i⟩
theorem turn_enumT {P : Program} {w : World} {K : PySem.W.Frag} {elts : List Expr} {kk : Nat} {tpos : Pos} (a e it : Addr) :
    Turn P w K (.Tuple elts kk tpos) (IteT K a) [e, it] e (fun i h => (∃ old, IsEnum h e it ((i : Nat) : Int) old) ∧ h.IsTupleIter it a i ∧ e ≠ it ∧ e ≠ a ∧ a ≠ it) where
  mem := by simp
  obj := fun i h st b hb => by
    obtain ⟨⟨old, he⟩, ⟨o, ho, hc, hd⟩, _⟩ := st
    have e' : b = e ∨ b = it := by simpa using hb
    rcases e' with z | z
    · rw [z]; exact ⟨_, he, fun v q => nomatch q⟩
    · rw [z]; exact ⟨o, ho, fun v q => by rw [hd] at q; cases q⟩
  keep := fun i h h' st k => let ⟨⟨old, he⟩, hi, hne⟩ := st; ⟨⟨old, k e (by simp) _ he⟩, hi.at fun o q => k it (by simp) o q, hne⟩
  item := by
    intro X hP hw hK hc i pins s σ H E I hf st hg
    subst hP hw hK
    obtain ⟨⟨old, he⟩, hit, hne, hea, hai⟩ := st
    obtain ⟨xs, x, hq, hx⟩ := hg
    obtain ⟨its, rv, p, hz⟩ := I.tuple hq
    obtain ⟨u, hu, ru⟩ := rv.get hx
    have hel : e < s.heap.objs.size := Heap.lt_size he
    have hil : it < s.heap.objs.size := by obtain ⟨_, q, _⟩ := hit; exact Heap.lt_size q
    have hlt : i < its.toArray.size := by rw [List.size_toArray]; exact (List.getElem?_eq_some_iff.mp hu).1
    have D : Draws X.prog X.w X.A.in1 it [it, a] its.toArray.size (fun i v => its.toArray[i]? = some v) (fun i h => h.IsTupleIter it a i ∧ h.IsTuple a its.toArray) := Draws.tuple (A := X.A.in1) (show X.A.in1.handled = none from I.ok.hd hc) it a hai its.toArray
    refine wpAny_pyNext_enum_itemD D he ⟨hit, p⟩ hlt hne (by simp [hne, hea]) fun u' h' tk hP' ho hit' hT hsz hk => ?_
    have hu' : u' = u := by
      have q1 : its[i]? = some u' := by simpa using hP'
      rw [hu] at q1; exact (Option.some.inj q1).symm
    subst hu'
    refine ⟨_, rfl, wpAny_letOwnedTupleGo_enum (s := { s with heap := h', toks := tk + 1 }) ho fun h'' he' sb => ?_⟩
    have hT2 : h''.get? s.heap.objs.size = some { cls := .type "tuple", data := .seq #[.int i tk, u'] } := (sb.2 _ (Nat.ne_of_gt hel)).trans hT
    have new : ObjOk X.prog X.w (upd H s.heap.objs.size (.tup [.int (i : Nat), x])) h'' s.heap.objs.size (.tup [.int (i : Nat), x]) :=
      ⟨by show 2 ≤ sizeLine; decide, [.int i tk, u'], .cons ⟨_, rfl⟩ (.cons ru .nil), ⟨_, hT2, rfl, _, rfl⟩⟩
    have I1 : Inv X pins σ (upd H s.heap.objs.size (.tup [.int (i : Nat), x])) { s with heap := h'', toks := tk + 1 } :=
      I.turnedNew (ch := [e, it]) (fun b ob hb q => (sb.2 b (fun z => hb (by simp [z]))).trans (hk b ob (fun z => hb (by simp [z])) (fun z => hb (by simp [z])) q)) hf (Nat.le_refl _) new
    refine ⟨.ref s.heap.objs.size, _, I1, rfl, ⟨_, x, rfl, I.hok.fresh (Nat.le_refl _), rfl, fun ys hy => by rw [I.tuple_inj hy hq]; exact hx⟩, ⟨⟨u', ?_⟩, hit'.1.at fun o q => (sb.2 it (Ne.symm hne)).trans q, hne, hea, hai⟩, fun b hb => ?_⟩
    · have e1 : ((i + 1 : Nat) : Int) = (i : Int) + 1 := by omega
      rw [e1]; exact he'
    · have hb' : b < s.heap.objs.size := by
        have e' : b = e ∨ b = it := by simpa using hb
        rcases e' with z | z
        · rw [z]; exact hel
        · rw [z]; exact hil
      rw [upd_ne (Nat.ne_of_lt hb')]
      exact (hf b hb).1
  done := by
    intro X hP hw hK hc i pins s σ H E I hf st hg
    subst hP hw hK
    obtain ⟨⟨old, he⟩, hit, hne, hea, hai⟩ := st
    obtain ⟨xs, hq, hx⟩ := hg
    obtain ⟨its, rv, p, hz⟩ := I.tuple hq
    obtain ⟨f0, f1, f2, f3, f4, f5⟩ := hf it (by simp)
    have hl := rv.length
    have hT : s.TypeIs (.ref e) "enumerate" := ⟨_, he, rfl⟩
    unfold pyNext
    refine wpAny_bind (wpAny_attempt (wpAny_callSpecial?_slot (name := Str.ofString "__next__") hT F.slot_enumerate_next
      (wpAny_call_entry F.slot_enumerate_next hT F.entry_enumerate_next ?_ (F.args_enumerate_next_1 _))))
    show wpAny _ _ (field (.ref e) 2 >>= _) _ _ _
    refine wpAny_bind (wpAny_field he rfl (x := .ref it) rfl ?_)
    refine wpAny_bind (wpAny_nextOf_tuple_end (show X.A.handled = none from I.ok.hd hc) hit p (by simp; omega) fun h' x he' hx' => ?_)
    obtain ⟨o, ho, hc2⟩ := hx'
    refine wpAny_bind (wpAny_isInstance (T := "StopIteration") (b := true) ⟨o, ho, hc2⟩ isSubtype_stop ?_)
    exact wpAny_pure ⟨rfl, I.turned (t' := s.toks) (fun b o hb q => he' b o hb q) f0 f1 f3 f4 f5⟩
  self := fun A i s Q E st h => let ⟨⟨_, he⟩, _⟩ := st; wpAny_pyIter_enum he h
def iEnumT (K : PySem.W.Frag) (ta : TA) : TI := fun σ H R => ta σ H fun vs H1 => ∃ a xs, vs = [.ref a] ∧ ((SqL K H1 a xs ∧ R (Ite K a) H1) ∨ (SqT K H1 a xs ∧ R (IteT K a) H1))
theorem pi_enumT {X : Cx} {e : Expr} {ta : TA} {p pos tpos : Pos} {elts : List Expr} {kk : Nat} (hg : Gl X "enumerate") (hm : X.mg "enumerate" = none) (ha : PA X [e] ta) (hs : starEach [e] X.env = [(false, eval e X.env)] := by rfl) :
    PI X (.Tuple elts kk tpos) (.Call (.Name "enumerate" p) [e] [] pos) (iEnumT X.K ta) := by
  refine ⟨fun pins s σ H R I h => ?_⟩
  refine Call_ (ld_blt I hg hm boot_enumerate (PyProof.Rows.callWith_type1 (thn (ha.run pos pins s σ H _ I h) fun us s1 ⟨vs, H1, I1, r1, q1⟩ => ?_) hs rfl))
  obtain ⟨a, xs, ex, q⟩ := q1
  subst ex
  cases r1 with
  | cons r rr =>
    cases rr
    cases r
    have fp : ∀ b ∈ [s1.heap.objs.size + 1, s1.heap.objs.size], FpOk X pins H1 b := fun b hb => by
      have e' : b = s1.heap.objs.size + 1 ∨ b = s1.heap.objs.size := by simpa using hb
      have hle : s1.heap.objs.size ≤ b := by
        rcases e' with z | z
        · rw [z]; exact Nat.le_add_right _ _
        · rw [z]; exact Nat.le_refl _
      exact I1.fpOk hle (I1.hok.fresh hle)
    rcases q with ⟨hq, q⟩ | ⟨hq, q⟩
    · obtain ⟨its, rv, p', hz⟩ := I1.list hq
      refine call_enumerate_list p'.isList fun h' he hit hsz hk => wpAny_pyIter_enum he ?_
      have I2 : Inv X pins σ H1 { s1 with heap := h' } := I1.kept (t' := s1.toks) hk
      exact ⟨s1.heap.objs.size + 1, [s1.heap.objs.size + 1, s1.heap.objs.size], _, _, H1, rfl, I2, turn_enum a (s1.heap.objs.size + 1) s1.heap.objs.size, ⟨⟨.none, he⟩, hit, Nat.succ_ne_self _⟩, fp, q⟩
    · obtain ⟨its, rv, p', hz⟩ := I1.tuple hq
      have hal : a < s1.heap.objs.size := by obtain ⟨o, ho, _⟩ := p'; exact Heap.lt_size ho
      refine call_enumerate_B (begins_tuple a its.toArray) p' fun h' he hit hsz hk => wpAny_pyIter_enum he ?_
      have I2 : Inv X pins σ H1 { s1 with heap := h' } := I1.kept (t' := s1.toks) hk
      exact ⟨s1.heap.objs.size + 1, [s1.heap.objs.size + 1, s1.heap.objs.size], _, _, H1, rfl, I2, turn_enumT a (s1.heap.objs.size + 1) s1.heap.objs.size,
        ⟨⟨.none, he⟩, ⟨_, hit, rfl, rfl⟩, Nat.succ_ne_self _, Nat.ne_of_gt (Nat.lt_succ_of_lt hal), Nat.ne_of_lt hal⟩, fp, q⟩
end Ev

set_option Elab.async false
set_option linter.all false
set_option maxRecDepth 100000
set_option maxHeartbeats 4000000
set_option autoImplicit false
/-! zip over a list and a tuple -/
namespace Ev
open PySem PySem.Spec PyProof.Rows L2
def ItzLT (K : PySem.W.Frag) (a b : Addr) : L2.It :=
  ⟨fun i H => ∃ (xs ys : List V) (x y : V), SqL K H a xs ∧ SqT K H b ys ∧ xs[i]? = some x ∧ ys[i]? = some y,
    fun i H v H' => ∃ T x y, v = .ref T ∧ H T = none ∧ H' = upd H T (.tup [x, y]) ∧ (∀ xs, SqL K H a xs → xs[i]? = some x) ∧ ∀ ys, SqT K H b ys → ys[i]? = some y,
    fun i H => ∃ xs ys : List V, SqL K H a xs ∧ SqT K H b ys ∧ i = min xs.length ys.length⟩
theorem turn_zipLT {P : Program} {w : World} {K : PySem.W.Frag} {elts : List Expr} {kk : Nat} {tpos : Pos} {a b z TI TO i1 i2 : Addr} (D : ZipSep2 z TI TO i1 i2 [i1, a] [i2, b]) (h1a : a ≠ i1) (h2b : b ≠ i2) :
    Turn P w K (.Tuple elts kk tpos) (ItzLT K a b) [z, TI, TO, i1, i2] z (fun i h => IsZip h z TI TO .none ∧ IsTupOf2 h TI (.ref i1) (.ref i2) ∧ (∃ x y, IsTupOf2 h TO x y) ∧ h.IsListIter i1 a i ∧ h.IsTupleIter i2 b i) where
  mem := by simp
  obj := fun i h st c hc => by
    obtain ⟨hz, hTI, ⟨x, y, hTO⟩, ⟨o1, e1, _, d1⟩, ⟨o2, e2, _, d2⟩⟩ := st
    have e' : c = z ∨ c = TI ∨ c = TO ∨ c = i1 ∨ c = i2 := by simpa using hc
    rcases e' with q | q | q | q | q
    · rw [q]; exact ⟨_, hz, fun v q => nomatch q⟩
    · rw [q]; exact ⟨_, hTI, fun v q => nomatch q⟩
    · rw [q]; exact ⟨_, hTO, fun v q => nomatch q⟩
    · rw [q]; exact ⟨o1, e1, fun v q => by rw [d1] at q; cases q⟩
    · rw [q]; exact ⟨o2, e2, fun v q => by rw [d2] at q; cases q⟩
  keep := fun i h h' st k => by
    obtain ⟨hz, hTI, ⟨x, y, hTO⟩, h1, h2⟩ := st
    exact ⟨k z (by simp) _ hz, k TI (by simp) _ hTI, ⟨x, y, k TO (by simp) _ hTO⟩, h1.at fun o q => k i1 (by simp) o q, h2.at fun o q => k i2 (by simp) o q⟩
  item := by
    intro X hP hw hK hc i pins s σ H E I hf st hg
    subst hP hw hK
    obtain ⟨hz, hTI, ⟨x0, y0, hTO⟩, h1, h2⟩ := st
    obtain ⟨xs, ys, x, y, hqx, hqy, hx, hy⟩ := hg
    obtain ⟨its, rv, p, _⟩ := I.list hqx
    obtain ⟨its2, rv2, p2, _⟩ := I.tuple hqy
    obtain ⟨u, hu, ru⟩ := rv.get hx
    obtain ⟨u2, hu2, ru2⟩ := rv2.get hy
    have hzl : z < s.heap.objs.size := Heap.lt_size hz
    have hh : X.A.in1.handled = none := I.ok.hd hc
    have D1 := Draws.list (prog := X.prog) (w := X.w) (A := X.A.in1) hh i1 a h1a its.toArray
    have D2 := Draws.tuple (prog := X.prog) (w := X.w) (A := X.A.in1) hh i2 b h2b its2.toArray
    have lt1 : i < its.toArray.size := by rw [List.size_toArray]; exact (List.getElem?_eq_some_iff.mp hu).1
    have lt2 : i < its2.toArray.size := by rw [List.size_toArray]; exact (List.getElem?_eq_some_iff.mp hu2).1
    refine wpAny_pyNext_zipD2_item D D1 D2 hz hTI hTO ⟨h1, p.isList⟩ ⟨h2, p2⟩ lt1 lt2 fun v1 v2 h' tk hP1 hP2 z' TO' h1' h2' hT hsz hk => ?_
    have e1 : v1 = u := by
      have q1 : its[i]? = some v1 := by simpa using hP1
      rw [hu] at q1; exact (Option.some.inj q1).symm
    have e2 : v2 = u2 := by
      have q1 : its2[i]? = some v2 := by simpa using hP2
      rw [hu2] at q1; exact (Option.some.inj q1).symm
    subst e1 e2
    refine ⟨_, rfl, wpAny_letOwnedTupleGo_zip (s := { s with heap := h', toks := tk }) z' fun h'' z'' sb => ?_⟩
    have hT2 : h''.get? s.heap.objs.size = some { cls := .type "tuple", data := .seq #[v1, v2] } := (sb.2 _ (Nat.ne_of_gt hzl)).trans hT
    have new : ObjOk X.prog X.w (upd H s.heap.objs.size (.tup [x, y])) h'' s.heap.objs.size (.tup [x, y]) :=
      ⟨by show 2 ≤ sizeLine; decide, [v1, v2], .cons ru (.cons ru2 .nil), ⟨_, hT2, rfl, _, rfl⟩⟩
    have I1 : Inv X pins σ (upd H s.heap.objs.size (.tup [x, y])) { s with heap := h'', toks := tk } :=
      I.turnedNew (ch := [z, TI, TO, i1, i2]) (fun c o hb q => (sb.2 c (fun q' => hb (by simp [q']))).trans (hk c o (fun q' => hb (by simp [q'])) (fun q' => hb (by simp [q'])) (fun q' => hb (by simp [q'])) (fun q' => hb (by simp [q'])) q)) hf (Nat.le_refl _) new
    refine ⟨.ref s.heap.objs.size, _, I1, rfl, ⟨_, x, y, rfl, I.hok.fresh (Nat.le_refl _), rfl, fun l hl => by rw [I.list_inj hl hqx]; exact hx, fun l hl => by rw [I.tuple_inj hl hqy]; exact hy⟩, ⟨z'', ?_, ⟨v1, v2, ?_⟩, ?_, ?_⟩, fun c hcm => ?_⟩
    · exact (sb.2 _ D.TIz).trans (hk _ _ D.TIz D.TITO D.TIi1 D.TIi2 hTI)
    · exact (sb.2 _ D.TOz).trans TO'
    · exact h1'.1.at fun o q => (sb.2 _ (Ne.symm D.zi1)).trans q
    · exact h2'.1.at fun o q => (sb.2 _ (Ne.symm D.zi2)).trans q
    · have hlt : c < s.heap.objs.size := by
        have e' : c = z ∨ c = TI ∨ c = TO ∨ c = i1 ∨ c = i2 := by simpa using hcm
        rcases e' with q | q | q | q | q
        · rw [q]; exact hzl
        · rw [q]; exact Heap.lt_size hTI
        · rw [q]; exact Heap.lt_size hTO
        · rw [q]; obtain ⟨_, e1, _⟩ := h1; exact Heap.lt_size e1
        · rw [q]; obtain ⟨_, e2, _⟩ := h2; exact Heap.lt_size e2
      rw [upd_ne (Nat.ne_of_lt hlt)]
      exact (hf c hcm).1
  done := by
    intro X hP hw hK hc i pins s σ H E I hf st hg
    subst hP hw hK
    obtain ⟨hz, hTI, ⟨x0, y0, hTO⟩, h1, h2⟩ := st
    obtain ⟨xs, ys, hqx, hqy, hend⟩ := hg
    obtain ⟨its, rv, p, _⟩ := I.list hqx
    obtain ⟨its2, rv2, p2, _⟩ := I.tuple hqy
    have l1 := rv.length
    have l2 := rv2.length
    have hh : X.A.in1.handled = none := I.ok.hd hc
    have D1 := Draws.list (prog := X.prog) (w := X.w) (A := X.A.in1) hh i1 a h1a its.toArray
    have D2 := Draws.tuple (prog := X.prog) (w := X.w) (A := X.A.in1) hh i2 b h2b its2.toArray
    refine wpAny_pyNext_zipD2_end D D1 D2 hz hTI hTO ⟨h1, p.isList⟩ ⟨h2, p2⟩ (by rw [List.size_toArray]; omega) (by rw [List.size_toArray]; omega) (by rw [List.size_toArray, List.size_toArray]; omega) fun h' tk hk => ⟨rfl, I.turnedL (ch := [z, TI, TO, i1, i2]) (fun c o hb q =>
      hk c o (fun q' => hb (by simp [q'])) (fun q' => hb (by simp [q'])) (fun q' => hb (by simp [q'])) (fun q' => hb (by simp [q'])) q) hf⟩
  self := fun A i s Q E st h => wpAny_pyIter_zip st.1 h
def iZipX (K : PySem.W.Frag) (ta : TA) : TI := fun σ H R => ta σ H fun vs H1 => ∃ a b xs ys, vs = [.ref a, .ref b] ∧ ((SqL K H1 a xs ∧ SqL K H1 b ys ∧ R (Itz K a b) H1) ∨ (SqT K H1 a xs ∧ SqT K H1 b ys ∧ R (RZ.ItzT K a b) H1) ∨ (SqL K H1 a xs ∧ SqT K H1 b ys ∧ R (ItzLT K a b) H1))
theorem pi_zipX {X : Cx} {e e2 : Expr} {ta : TA} {p pos tpos : Pos} {elts : List Expr} {kk : Nat} (hg : Gl X "zip") (hm : X.mg "zip" = none) (ha : PA X [e, e2] ta)
    (hs : starEach [e, e2] X.env = (false, eval e X.env) :: starEach [e2] X.env := by rfl) (hpl : (backTo pos (starEach [e2] X.env)).any (·.1) = false := by rfl) :
    PI X (.Tuple elts kk tpos) (.Call (.Name "zip" p) [e, e2] [] pos) (iZipX X.K ta) := by
  refine ⟨fun pins s σ H R I h => ?_⟩
  refine Call_ (ld_blt I hg hm PyProof.Rows.boot_zip (PyProof.Rows.callWith_type1 (thn (ha.run pos pins s σ H _ I h) fun us s1 ⟨vs, H1, I1, r1, q1⟩ => ?_) hs hpl))
  obtain ⟨a, b, xs, ys, ex, q1⟩ := q1
  subst ex
  cases r1 with
  | cons r rr =>
    cases rr with
    | cons r' rr =>
      cases rr
      cases r
      cases r'
      have fresh5 : ∀ c, c ∈ [s1.heap.objs.size + 4, s1.heap.objs.size + 2, s1.heap.objs.size + 3, s1.heap.objs.size, s1.heap.objs.size + 1] → FpOk X pins H1 c := fun c hcm => by
        have e' : c = s1.heap.objs.size + 4 ∨ c = s1.heap.objs.size + 2 ∨ c = s1.heap.objs.size + 3 ∨ c = s1.heap.objs.size ∨ c = s1.heap.objs.size + 1 := by simpa using hcm
        have hle : s1.heap.objs.size ≤ c := by
          rcases e' with z | z | z | z | z
          · rw [z]; exact Nat.le_add_right _ _
          · rw [z]; exact Nat.le_add_right _ _
          · rw [z]; exact Nat.le_add_right _ _
          · rw [z]; exact Nat.le_refl _
          · rw [z]; exact Nat.le_add_right _ _
        exact I1.fpOk hle (I1.hok.fresh hle)
      rcases q1 with ⟨hqx, hqy, q⟩ | ⟨hqx, hqy, q⟩ | ⟨hqx, hqy, q⟩
      · obtain ⟨its, rv, p1, _⟩ := I1.list hqx
        obtain ⟨its2, rv2, p2, _⟩ := I1.list hqy
        refine call_zip_2 p1.isList p2.isList fun h' hz hTI hTO h1 h2 hsz hk => wpAny_pyIter_zip hz ?_
        have I2 : Inv X pins σ H1 { s1 with heap := h' } := I1.kept (t' := s1.toks) hk
        exact ⟨s1.heap.objs.size + 4, [s1.heap.objs.size + 4, s1.heap.objs.size + 2, s1.heap.objs.size + 3, s1.heap.objs.size, s1.heap.objs.size + 1], _, _, H1, rfl, I2, turn_zip (PySem.W.ktu_apart s1.heap.objs.size a b p1.lt p2.lt), ⟨hz, hTI, ⟨_, _, hTO⟩, h1, h2⟩, fresh5, q⟩
      · obtain ⟨its, rv, p1, _⟩ := I1.tuple hqx
        obtain ⟨its2, rv2, p2, _⟩ := I1.tuple hqy
        obtain ⟨o1, ho1, _⟩ := id p1
        obtain ⟨o2, ho2, _⟩ := id p2
        refine RZ.call_zipT (show s1.heap.IsTuple a its.toArray from p1) (show s1.heap.IsTuple b its2.toArray from p2) fun h' hz hTI hTO h1 h2 hsz hk => wpAny_pyIter_zip hz ?_
        have I2 : Inv X pins σ H1 { s1 with heap := h' } := I1.kept (t' := s1.toks) hk
        exact ⟨s1.heap.objs.size + 4, [s1.heap.objs.size + 4, s1.heap.objs.size + 2, s1.heap.objs.size + 3, s1.heap.objs.size, s1.heap.objs.size + 1], _, _, H1, rfl, I2, RZ.turn_zipT (PySem.W.ktu_apart s1.heap.objs.size a b (Heap.lt_size ho1) (Heap.lt_size ho2)), ⟨hz, hTI, ⟨_, _, hTO⟩, h1, h2⟩, fresh5, q⟩
      · obtain ⟨its, rv, p1, _⟩ := I1.list hqx
        obtain ⟨its2, rv2, p2, _⟩ := I1.tuple hqy
        have l1 : a < s1.heap.objs.size := p1.lt
        obtain ⟨o2, ho2, _⟩ := id p2
        have l2 : b < s1.heap.objs.size := Heap.lt_size ho2
        refine zip_begins2 (begins_list a its.toArray) (begins_tuple b its2.toArray) p1.isList p2 fun h' hz hTI hTO h1 h2 hsz hk => wpAny_pyIter_zip hz ?_
        have I2 : Inv X pins σ H1 { s1 with heap := h' } := I1.kept (t' := s1.toks) hk
        refine ⟨s1.heap.objs.size + 4, [s1.heap.objs.size + 4, s1.heap.objs.size + 2, s1.heap.objs.size + 3, s1.heap.objs.size, s1.heap.objs.size + 1], _, _, H1, rfl, I2,
          turn_zipLT (zip_sep2 (fp1 := [a]) (fp2 := [b]) (by simpa using l1) (by simpa using l2)) (Nat.ne_of_lt l1) (Nat.ne_of_lt (Nat.lt_succ_of_lt l2)), ⟨hz, hTI, ⟨_, _, hTO⟩, ⟨_, h1, rfl, rfl⟩, ⟨_, h2, rfl, rfl⟩⟩, fresh5, q⟩
end Ev

set_option Elab.async false
set_option linter.all false
set_option maxRecDepth 100000
set_option autoImplicit false
namespace Ev
open PySem PySem.Spec PyProof.Rows L2
open Classical
section
variable {F : Nat → Addr} {K : PySem.W.Frag} {X : Cx} {B B' B1 B2 : Addr → Prop} {env env' env0 env1 env2 : Env} {σ σ' σ1 σ2 : L2.St} {H H' H0 H1 H2 H3 Hm Hf : Hp} {v w : V} {x y o : Opd} {t : T} {e a b c tg : Expr} {pos : Pos} {rest : List Expr} {i : Nat} {J : L2.It} {ts us : List T}
/-! ### what is walked -/
/-- the walk hands out these values, one by one, as long as what is laid in Hf stands -/
def Wk (F : Nat → Addr) (K : PySem.W.Frag) (Hf : Hp) (J : L2.It) (ts : List T) : Prop := ∀ (i : Nat) (H : Hp), Hle Hf H →
  (∀ t, ts[i]? = some t → J.go i H ∧ ∀ x H', J.yld i H x H' → Hle H H' ∧ ∃ Hx, Hle Hx H' ∧ (∀ a o, Hx a = some o → Hf a = some o ∨ H a = none) ∧ Rp F K Hx t x) ∧ (ts.length = i → J.stop i H)
def fIt (F : Nat → Addr) (K : PySem.W.Frag) (m : M (List T)) : TI := fun σ H R => ∃ B env, Sim F K B env σ H ∧ ∃ ts env', m env = .ok ts env' ∧
  ∀ J H', Frm env σ H H' ∧ Le env env' ∧ Sim F K B env' σ H' ∧ ts.length ≤ sizeLine ∧ Wk F K (mask (MK B env' σ) H') J ts → R J H'
theorem _root_.L2.PI.imp {iter : Expr} {t t' : TI} (h : PI X tg iter t) (i : ∀ σ H R, t' σ H R → t σ H R) : PI X tg iter t' := ⟨fun pins s σ H R I q => h.run pins s σ H R I (i σ H R q)⟩
theorem wk_list {p : Addr} {vs : List V} (h : Hf p = some (.lst vs)) (r : RpL F K Hf ts vs) : Wk F K Hf (Itl K p) ts := fun i H e => by
  have hs : SqL K H p vs := .inl (.inl (e _ _ h))
  refine ⟨fun t ht => ?_, fun hi => ⟨vs, hs, by rw [← r.len]; exact Nat.le_of_eq hi⟩⟩
  obtain ⟨v, h1, h2⟩ := r.get ht
  refine ⟨⟨vs, v, hs, h1⟩, fun x H' ⟨e1, hx⟩ => ?_⟩
  subst e1
  have := hx vs hs
  rw [h1] at this; cases this
  exact ⟨.refl, Hf, e, fun a o q => .inl q, h2⟩
theorem wk_scr {p : Addr} {vs : List V} (h : SqL K Hf p vs) (r : RpL F K Hf ts vs) : Wk F K Hf (Itl K p) ts := fun i H e => by
  have hs : SqL K H p vs := SqL.le e h
  refine ⟨fun t ht => ?_, fun hi => ⟨vs, hs, by rw [← r.len]; exact Nat.le_of_eq hi⟩⟩
  obtain ⟨v, h1, h2⟩ := r.get ht
  refine ⟨⟨vs, v, hs, h1⟩, fun x H' ⟨e1, hx⟩ => ?_⟩
  subst e1
  have := hx vs hs
  rw [h1] at this; cases this
  exact ⟨.refl, Hf, e, fun a o q => .inl q, h2⟩
theorem wk_tup {p : Addr} {vs : List V} (h : Hf p = some (.tup vs)) (r : RpL F K Hf ts vs) : Wk F K Hf (Itt K p) ts := fun i H e => by
  have hs : SqT K H p vs := .inl (.inl (e _ _ h))
  refine ⟨fun t ht => ?_, fun hi => ⟨vs, hs, by rw [← r.len]; exact Nat.le_of_eq hi⟩⟩
  obtain ⟨v, h1, h2⟩ := r.get ht
  refine ⟨⟨vs, v, hs, h1⟩, fun x H' ⟨e1, hx⟩ => ?_⟩
  subst e1
  have := hx vs hs
  rw [h1] at this; cases this
  exact ⟨.refl, Hf, e, fun a o q => .inl q, h2⟩
theorem pi_or {iter : Expr} {t1 t2 : TI} (h1 : PI X tg iter t1) (h2 : PI X tg iter t2) : PI X tg iter (fun σ H R => t1 σ H R ∨ t2 σ H R) := ⟨fun pins s σ H R I q => q.elim (h1.run pins s σ H R I) (h2.run pins s σ H R I)⟩
/-- lists and tuples -/
theorem ei_seq {m : M (T × Bool)} (h : PE X e (fE F X.K m)) : PI X tg e (fIt F X.K (do let (x, _) ← m; lift (seqOf x))) := by
  refine (pi_or (pi_list (tg := tg) h) (pi_tup h)).imp fun σ H R ⟨B, env, S, ts, env', h0, q⟩ => ?_
  obtain ⟨r, env1, a1, b1⟩ := bind_ok.mp h0
  obtain ⟨c2, e2⟩ := lift_ok.mp b1
  subst e2
  cases hr : r.1 with
  | lst xs =>
    rw [hr] at c2; cases c2
    refine .inl ⟨B, env, S, r, env1, a1, fun v H' ps => ?_⟩
    obtain ⟨f, l, S', rv⟩ := ps.plain S
    rw [hr] at rv
    simp only [Rp] at rv
    obtain ⟨p, vs, rfl, k1, k2, k3⟩ := rv
    exact ⟨p, rfl, ⟨vs, .inl (.inl (mask_le _ _ k1))⟩, q _ H' ⟨f, l, S', by rw [k3.len]; exact k2, wk_list k1 k3⟩⟩
  | scr xs =>
    rw [hr] at c2; cases c2
    refine .inl ⟨B, env, S, r, env1, a1, fun v H' ps => ?_⟩
    obtain ⟨f, l, S', rv⟩ := ps.plain S
    rw [hr] at rv
    simp only [Rp] at rv
    obtain ⟨p, vs, rfl, k1, k2, k3⟩ := rv
    exact ⟨p, rfl, ⟨vs, SqL.le mask_le k1⟩, q _ H' ⟨f, l, S', by rw [k3.len]; exact k2, wk_scr k1 k3⟩⟩
  | tup xs =>
    rw [hr] at c2; cases c2
    refine .inr ⟨B, env, S, r, env1, a1, fun v H' ps => ?_⟩
    obtain ⟨f, l, S', rv⟩ := ps.plain S
    rw [hr] at rv
    simp only [Rp] at rv
    obtain ⟨p, vs, rfl, k1, k2, k3⟩ := rv
    exact ⟨p, rfl, ⟨vs, .inl (.inl (mask_le _ _ k1))⟩, q _ H' ⟨f, l, S', by rw [k3.len]; exact k2, wk_tup k1 k3⟩⟩
  | _ => rw [hr] at c2; cases c2
theorem rng_len (a b : Int) : (rng a b).length = (b - a).toNat := by unfold rng; rw [List.length_map, List.length_range]
theorem wk_rng (i j : Int) : Wk F K Hf (Itr i (j - i).toNat) (rng i j) := fun n H e => by
  refine ⟨fun t ht => ?_, fun hi => by rw [rng_len] at hi; exact Nat.le_of_eq hi⟩
  have hn : n < (j - i).toNat := by rw [← rng_len]; exact (List.getElem?_eq_some_iff.mp ht).1
  refine ⟨hn, fun x H' ⟨e1, hx⟩ => ?_⟩
  subst e1
  refine ⟨.refl, Hf, e, fun a o q => .inl q, ?_⟩
  unfold rng at ht
  rw [List.getElem?_map, List.getElem?_range hn] at ht
  cases ht
  simp only [Rp]
  exact hx
theorem rngT_ok {i j : Int} {ts : List T} (h : rngT i j = some ts) : ts = rng i j ∧ -LIM ≤ i ∧ i ≤ LIM ∧ -LIM ≤ j ∧ j ≤ LIM := by
  unfold rngT at h
  split at h
  · rename_i c; cases h; exact ⟨rfl, c⟩
  · cases h
theorem asInt_vr {n : Int} (h : asInt t = some n) (hv : Vr F K Hm H t v) : v = .int n := by
  cases t with
  | int m => cases h; exact hv
  | _ => cases h
theorem ei_r1 {ma : M Opd} {p : Pos} (hs : ∀ x p, a ≠ .Starred x p) (hg : Gl X "range") (hm : X.mg "range" = none) (h : PE X a (fO F X.K ma)) :
    PI X tg (.Call (.Name "range" p) [a] [] pos) (fIt F X.K (do let x ← ma; let x ← res x; let i ← lift (asInt x); lift (rngT 0 i))) := by
  have h1 := one_of hs (env := X.env)
  refine (pi_range1 hg hm (pa_cons h pa_nil (by rw [h1]; rfl)) h1).imp fun σ H R ⟨B, env, S, ts, env', h0, q⟩ => ?_
  obtain ⟨x, env1, a1, b1⟩ := bind_ok.mp h0
  obtain ⟨t, env2, a2, b2⟩ := bind_ok.mp b1
  obtain ⟨n, env3, a3, b3⟩ := bind_ok.mp b2
  obtain ⟨c3, e3⟩ := lift_ok.mp a3
  subst e3
  obtain ⟨c4, e4⟩ := lift_ok.mp b3
  subst e4
  obtain ⟨rfl, k1, k2, k3, k4⟩ := rngT_ok c4
  refine one S a1 fun v H1 B1 f1 l1 e1 S1 r1 => ?_
  obtain ⟨g2, vx⟩ := r1.vr S1 a2
  subst g2
  have hlim : (LIM : Int) = 1000000 := rfl
  have hw : Wk F X.K (mask (MK B env2 σ) H1) (Itr 0 (n - 0).toNat) (rng 0 n) := wk_rng 0 n
  rw [Int.sub_zero] at hw
  refine ⟨n, by rw [asInt_vr c3 vx], by omega, by omega, q _ H1 ⟨f1, l1, S1.less e1.1, ?_, hw⟩⟩
  rw [rng_len, sizeLine_eq]; omega
theorem starTwo {f : Expr} (hs : ∀ x p, a ≠ .Starred x p) (hs2 : ∀ x p, f ≠ .Starred x p) {env : PySem.Env} : starEach [a, f] env = [(false, eval a env), (false, eval f env)] := by rw [starEach_cons hs, starEach_cons hs2]; rfl
theorem ei_r2 {ma mb : M Opd} {p : Pos} (hs : ∀ x p, a ≠ .Starred x p) (hs2 : ∀ x p, b ≠ .Starred x p) (hg : Gl X "range") (hm : X.mg "range" = none) (h : PE X a (fO F X.K ma)) (h2 : PE X b (fO F X.K mb)) :
    PI X tg (.Call (.Name "range" p) [a, b] [] pos) (fIt F X.K (do let x ← ma; let y ← mb; let x ← res x; let y ← res y; let i ← lift (asInt x); let j ← lift (asInt y); lift (rngT i j))) := by
  have h1 := one_of hs2 (env := X.env)
  refine (pi_range2 hg hm (pa_cons h (pa_cons h2 pa_nil (by rw [h1]; rfl)) (starEach_cons hs)) (starTwo hs hs2) h1).imp fun σ H R ⟨B, env, S, ts, env', h0, q⟩ => ?_
  obtain ⟨x, env1, a1, b1⟩ := bind_ok.mp h0
  obtain ⟨y, env2, a2, b2⟩ := bind_ok.mp b1
  obtain ⟨t, env3, a3, b3⟩ := bind_ok.mp b2
  obtain ⟨u, env4, a4, b4⟩ := bind_ok.mp b3
  obtain ⟨m, env5, a5, b5⟩ := bind_ok.mp b4
  obtain ⟨c5, e5⟩ := lift_ok.mp a5
  subst e5
  obtain ⟨n, env6, a6, b6⟩ := bind_ok.mp b5
  obtain ⟨c6, e6⟩ := lift_ok.mp a6
  subst e6
  obtain ⟨c7, e7⟩ := lift_ok.mp b6
  subst e7
  obtain ⟨rfl, k1, k2, k3, k4⟩ := rngT_ok c7
  refine two S a1 a2 fun v w H2 B2 f2 l2 e2 S2 rx ry => ?_
  obtain ⟨g3, vx⟩ := rx.vr S2 a3
  subst g3
  obtain ⟨g4, vy⟩ := ry.vr S2 a4
  subst g4
  have hlim : (LIM : Int) = 1000000 := rfl
  refine ⟨m, n, by rw [asInt_vr c5 vx, asInt_vr c6 vy], by omega, q _ H2 ⟨f2, l2, S2.less e2.1, ?_, wk_rng m n⟩⟩
  rw [rng_len, sizeLine_eq]; omega
/-- enumerate of a list -/
theorem enumL_get {ts : List T} {n : Nat} {z : T} (h : (enumL ts)[n]? = some z) : ∃ u, ts[n]? = some u ∧ z = .tup [.int n, u] := by
  unfold enumL at h
  rw [List.getElem?_map] at h
  obtain ⟨p, h1, rfl⟩ := Option.map_eq_some_iff.mp h
  rw [List.getElem?_zipIdx] at h1
  obtain ⟨u, h2, rfl⟩ := Option.map_eq_some_iff.mp h1
  exact ⟨u, h2, by simp⟩
theorem enumL_len {ts : List T} : (enumL ts).length = ts.length := by unfold enumL; simp
theorem pair_new {Hf H : Hp} {p : Addr} {t1 t2 : T} {v1 v2 : V} (e : Hle Hf H) (hp : H p = none) (r1 : Rp F K Hf t1 v1) (r2 : Rp F K Hf t2 v2) :
    Hle H (upd H p (.tup [v1, v2])) ∧ ∃ Hx, Hle Hx (upd H p (.tup [v1, v2])) ∧ (∀ a o, Hx a = some o → Hf a = some o ∨ H a = none) ∧ Rp F K Hx (.tup [t1, t2]) (.ref p) := by
  have hm : Hf p = none := by
    cases q : Hf p with
    | none => rfl
    | some o => rw [e p o q] at hp; cases hp
  refine ⟨upd_le hp, upd Hf p (.tup [v1, v2]), upd_le2 e, fun a o q => ?_, ?_⟩
  · by_cases ha : a = p
    · subst ha; exact .inr hp
    · rw [upd_ne ha] at q; exact .inl q
  · simp only [Rp]
    exact ⟨p, _, rfl, upd_same, by show 2 ≤ sizeLine; decide, .cons (r1.le (upd_le hm)) (.one (r2.le (upd_le hm)))⟩
theorem wk_enum {p : Addr} {vs : List V} (h : SqL K Hf p vs) (r : RpL F K Hf ts vs) : Wk F K Hf (Ite K p) (enumL ts) := fun i H e => by
  have hs : SqL K H p vs := SqL.le e h
  refine ⟨fun t ht => ?_, fun hi => ⟨vs, hs, by rw [← r.len, ← enumL_len]; exact Nat.le_of_eq hi⟩⟩
  obtain ⟨u, hu, rfl⟩ := enumL_get ht
  obtain ⟨v, h1, h2⟩ := r.get hu
  refine ⟨⟨vs, v, hs, h1⟩, fun x H' ⟨p', y, e1, e2, e3, hx⟩ => ?_⟩
  subst e1 e3
  have := hx vs hs
  rw [h1] at this; cases this
  exact pair_new e e2 (by simp [Rp]) h2
theorem rg_small {i j : Int} (h1 : -LIM ≤ i) (h2 : i ≤ LIM) (h3 : -LIM ≤ j) (h4 : j ≤ LIM) {c : Int} (hc : c = -1 ∨ c = 2) : RgC i j c (PySem.Builtin.Range.rangeSize i j c).toNat := by
  have hlim : (LIM : Int) = 1000000 := rfl
  rcases hc with rfl | rfl
  · have e : PySem.Builtin.Range.rangeSize i j (-1) = ((i - j).toNat : Int) := PySem.W.rangeSize_downNat i j
    rw [e, Int.toNat_natCast]
    exact RgC.neg (by omega) (by omega) (by omega) (by omega)
  · have e : 0 ≤ PySem.Builtin.Range.rangeSize i j 2 ∧ PySem.Builtin.Range.rangeSize i j 2 ≤ 2000001 := by
      unfold PySem.Builtin.Range.rangeSize
      rw [if_pos (by decide)]
      split <;> omega
    refine ⟨by decide, by decide, ?_, by omega⟩
    unfold PySem.Builtin.Range.small
    simp only [PySem.Builtin.Range.rangeFitsLong, Bool.and_eq_true, Bool.or_eq_true, decide_eq_true_eq, beq_iff_eq, show (2 : Int) > 0 by decide, if_true]
    omega
theorem rng3_len {i j c : Int} {ts : List T} (h : rng3 i j c = some ts) : ts.length = (PySem.Builtin.Range.rangeSize i j c).toNat := by
  unfold rng3 at h
  split at h
  · cases h; rw [List.length_map, List.length_range]
  · cases h
theorem wk_rng3 {i j c : Int} {ts : List T} (h : rng3 i j c = some ts) : Wk F K Hf (Itc i c (PySem.Builtin.Range.rangeSize i j c).toNat) ts := fun n H e => by
  refine ⟨fun t ht => ?_, fun hi => by rw [rng3_len h] at hi; exact Nat.le_of_eq hi⟩
  have hn : n < (PySem.Builtin.Range.rangeSize i j c).toNat := by rw [← rng3_len h]; exact (List.getElem?_eq_some_iff.mp ht).1
  refine ⟨hn, fun x H' ⟨e1, hx⟩ => ?_⟩
  subst e1
  refine ⟨.refl, Hf, e, fun a o q => .inl q, ?_⟩
  unfold rng3 at h
  split at h
  · cases h
    rw [List.getElem?_map, List.getElem?_range hn] at ht
    cases ht
    simp only [Rp]
    exact hx
  · cases h
theorem starThree {f g : Expr} (hs : ∀ x p, a ≠ .Starred x p) (hs2 : ∀ x p, f ≠ .Starred x p) (hs3 : ∀ x p, g ≠ .Starred x p) {env : PySem.Env} : starEach [a, f, g] env = [(false, eval a env), (false, eval f env), (false, eval g env)] := by rw [starEach_cons hs, starEach_cons hs2, starEach_cons hs3]; rfl
theorem ei_r3 {ma mb mc : M Opd} {p : Pos} (hs : ∀ x p, a ≠ .Starred x p) (hs2 : ∀ x p, b ≠ .Starred x p) (hs3 : ∀ x p, c ≠ .Starred x p) (hg : Gl X "range") (hm : X.mg "range" = none) (h : PE X a (fO F X.K ma)) (h2 : PE X b (fO F X.K mb)) (h3 : PE X c (fO F X.K mc)) :
    PI X tg (.Call (.Name "range" p) [a, b, c] [] pos) (fIt F X.K (do let x ← ma; let y ← mb; let z ← mc; let x ← res x; let y ← res y; let z ← res z; let i ← lift (asInt x); let j ← lift (asInt y); let k ← lift (asInt z); need (decide (-LIM ≤ i ∧ i ≤ LIM ∧ -LIM ≤ j ∧ j ≤ LIM ∧ -LIM ≤ k ∧ k ≤ LIM)); lift (rng3 i j k))) := by
  have h1 := one_of hs3 (env := X.env)
  refine (pi_range3 hg hm (pa_cons h (pa_cons h2 (pa_cons h3 pa_nil (by rw [h1]; rfl)) (starEach_cons hs2)) (starEach_cons hs)) (starEach_cons hs) (by rw [starEach_cons hs2, h1]; rfl)).imp fun σ H R ⟨B, env, S, ts, env', h0, q⟩ => ?_
  obtain ⟨x, env1, a1, b1⟩ := bind_ok.mp h0
  obtain ⟨y, env2, a2, b2⟩ := bind_ok.mp b1
  obtain ⟨z, env3, a3, b3⟩ := bind_ok.mp b2
  obtain ⟨t, env4, a4, b4⟩ := bind_ok.mp b3
  obtain ⟨u, env5, a5, b5⟩ := bind_ok.mp b4
  obtain ⟨w, env6, a6, b6⟩ := bind_ok.mp b5
  obtain ⟨m, env7, a7, b7⟩ := bind_ok.mp b6
  obtain ⟨c7, e7⟩ := lift_ok.mp a7
  subst e7
  obtain ⟨n, env8, a8, b8⟩ := bind_ok.mp b7
  obtain ⟨c8, e8⟩ := lift_ok.mp a8
  subst e8
  obtain ⟨k, env9, a9, b9⟩ := bind_ok.mp b8
  obtain ⟨c9, e9⟩ := lift_ok.mp a9
  subst e9
  obtain ⟨u0, env10, a10, b10⟩ := bind_ok.mp b9
  obtain ⟨c10, e10⟩ := need_ok.mp a10
  subst e10
  obtain ⟨c11, e11⟩ := lift_ok.mp b10
  subst e11
  obtain ⟨k1, k2, k3, k4, k5, k6⟩ := of_decide_eq_true c10
  refine one S a1 fun v1 H1 B1 f1 l1 e1 S1 r1 => ?_
  refine one S1 a2 fun v2 H2 B2 f2 l2 e2 S2 r2 => ?_
  refine one S2 a3 fun v3 H3 B3 f3 l3 e3 S3 r3 => ?_
  have rx := (r1.step S1 l2 f2 e2).step S2 l3 f3 e3
  have ry := r2.step S2 l3 f3 e3
  obtain ⟨g1, vx⟩ := rx.vr S3 a4
  subst g1
  obtain ⟨g2, vy⟩ := ry.vr S3 a5
  subst g2
  obtain ⟨g3, vz⟩ := r3.vr S3 a6
  subst g3
  have hk : k = -1 ∨ k = 2 := by
    unfold rng3 at c11
    split at c11
    · assumption
    · cases c11
  have hlim : (LIM : Int) = 1000000 := rfl
  have ff := (f1.trans l1 f2).trans (l1.trans l2) f3
  have ll := (l1.trans l2).trans l3
  have ee : Ext B B3 H := (e1.trans f1 e2).trans (f1.trans l1 f2) e3
  refine ⟨m, n, k, _, by rw [asInt_vr c7 vx, asInt_vr c8 vy, asInt_vr c9 vz], rg_small k1 k2 k3 k4 hk, q _ H3 ⟨ff, ll, S3.less ee.1, ?_, wk_rng3 c11⟩⟩
  rw [rng3_len c11, sizeLine_eq]
  rcases hk with rfl | rfl
  · have : PySem.Builtin.Range.rangeSize m n (-1) = ((m - n).toNat : Int) := PySem.W.rangeSize_downNat m n
    rw [this]; omega
  · unfold PySem.Builtin.Range.rangeSize
    rw [if_pos (by decide)]
    split <;> omega
theorem wk_enumT {p : Addr} {vs : List V} (h : SqT K Hf p vs) (r : RpL F K Hf ts vs) : Wk F K Hf (IteT K p) (enumL ts) := fun i H e => by
  have hs : SqT K H p vs := SqT.le e h
  refine ⟨fun t ht => ?_, fun hi => ⟨vs, hs, by rw [← r.len, ← enumL_len]; exact Nat.le_of_eq hi⟩⟩
  obtain ⟨u, hu, rfl⟩ := enumL_get ht
  obtain ⟨v, h1, h2⟩ := r.get hu
  refine ⟨⟨vs, v, hs, h1⟩, fun x H' ⟨p', y, e1, e2, e3, hx⟩ => ?_⟩
  subst e1 e3
  have := hx vs hs
  rw [h1] at this; cases this
  exact pair_new e e2 (by simp [Rp]) h2
theorem ei_enum {m : M (T × Bool)} {p tpos : Pos} {elts : List Expr} {kk : Nat} (hs : ∀ x p, a ≠ .Starred x p) (hg : Gl X "enumerate") (hm : X.mg "enumerate" = none) (h : PE X a (fE F X.K m)) :
    PI X (.Tuple elts kk tpos) (.Call (.Name "enumerate" p) [a] [] pos) (fIt F X.K (do let (x, _) ← m; let xs ← lift (enuF x); M.pure (enumL xs))) := by
  have h1 := one_of hs (env := X.env)
  refine (pi_enumT hg hm (pa_cons h pa_nil (by rw [h1]; rfl)) h1).imp fun σ H R ⟨B, env, S, ts, env', h0, q⟩ => ?_
  obtain ⟨r, env1, a1, b1⟩ := bind_ok.mp h0
  obtain ⟨xs, env2, a2, b2⟩ := bind_ok.mp b1
  obtain ⟨c2, e2⟩ := lift_ok.mp a2
  subst e2
  obtain ⟨rfl, rfl⟩ := pure_ok.mp b2
  refine ⟨B, env, S, r, _, a1, fun v H' ps => ?_⟩
  obtain ⟨f, l, S', rv⟩ := ps.plain S
  cases hr : r.1 with
  | lst zs =>
    rw [hr] at c2 rv; cases c2
    simp only [Rp] at rv
    obtain ⟨p, vs, rfl, k1, k2, k3⟩ := rv
    exact ⟨p, vs, rfl, .inl ⟨.inl (.inl (mask_le _ _ k1)), q _ H' ⟨f, l, S', by rw [enumL_len, k3.len]; exact k2, wk_enum (.inl (.inl k1)) k3⟩⟩⟩
  | tup zs =>
    rw [hr] at c2 rv; cases c2
    simp only [Rp] at rv
    obtain ⟨p, vs, rfl, k1, k2, k3⟩ := rv
    exact ⟨p, vs, rfl, .inr ⟨.inl (.inl (mask_le _ _ k1)), q _ H' ⟨f, l, S', by rw [enumL_len, k3.len]; exact k2, wk_enumT (.inl (.inl k1)) k3⟩⟩⟩
  | _ => rw [hr] at c2; cases c2
/-- zip of two lists or two tuples -/
theorem zipL_get {ts us : List T} {n : Nat} {z : T} (h : (zipL ts us)[n]? = some z) : ∃ t u, ts[n]? = some t ∧ us[n]? = some u ∧ z = .tup [t, u] := by
  unfold zipL at h
  rw [List.getElem?_map] at h
  obtain ⟨p, h1, rfl⟩ := Option.map_eq_some_iff.mp h
  rw [List.getElem?_zip_eq_some] at h1
  exact ⟨p.1, p.2, h1.1, h1.2, rfl⟩
theorem zipL_len {ts us : List T} : (zipL ts us).length = min ts.length us.length := by unfold zipL; simp
theorem wk_zip {p1 p2 : Addr} {vs ws : List V} (h1 : SqL K Hf p1 vs) (h2 : SqL K Hf p2 ws) (r1 : RpL F K Hf ts vs) (r2 : RpL F K Hf us ws) : Wk F K Hf (Itz K p1 p2) (zipL ts us) := fun i H e => by
  have hs1 : SqL K H p1 vs := SqL.le e h1
  have hs2 : SqL K H p2 ws := SqL.le e h2
  refine ⟨fun t ht => ?_, fun hi => ⟨vs, ws, hs1, hs2, by rw [← r1.len, ← r2.len]; rw [zipL_len] at hi; omega⟩⟩
  obtain ⟨t1, t2, hu1, hu2, rfl⟩ := zipL_get ht
  obtain ⟨v, k1, k2⟩ := r1.get hu1
  obtain ⟨w, k3, k4⟩ := r2.get hu2
  refine ⟨⟨vs, ws, v, w, hs1, hs2, k1, k3⟩, fun x H' ⟨p', y1, y2, e1, e2, e3, hx, hy⟩ => ?_⟩
  subst e1 e3
  have q1 := hx vs hs1
  rw [k1] at q1; cases q1
  have q2 := hy ws hs2
  rw [k3] at q2; cases q2
  exact pair_new e e2 k2 k4
theorem wk_zipT {p1 p2 : Addr} {vs ws : List V} (h1 : Hf p1 = some (.tup vs)) (h2 : Hf p2 = some (.tup ws)) (r1 : RpL F K Hf ts vs) (r2 : RpL F K Hf us ws) : Wk F K Hf (RZ.ItzT K p1 p2) (zipL ts us) := fun i H e => by
  have hs1 : SqT K H p1 vs := .inl (.inl (e _ _ h1))
  have hs2 : SqT K H p2 ws := .inl (.inl (e _ _ h2))
  refine ⟨fun t ht => ?_, fun hi => ⟨vs, ws, hs1, hs2, by rw [← r1.len, ← r2.len]; rw [zipL_len] at hi; omega⟩⟩
  obtain ⟨t1, t2, hu1, hu2, rfl⟩ := zipL_get ht
  obtain ⟨v, k1, k2⟩ := r1.get hu1
  obtain ⟨w, k3, k4⟩ := r2.get hu2
  refine ⟨⟨vs, ws, v, w, hs1, hs2, k1, k3⟩, fun x H' ⟨p', y1, y2, e1, e2, e3, hx, hy⟩ => ?_⟩
  subst e1 e3
  have q1 := hx vs hs1
  rw [k1] at q1; cases q1
  have q2 := hy ws hs2
  rw [k3] at q2; cases q2
  exact pair_new e e2 k2 k4
theorem wk_zipLT {p1 p2 : Addr} {vs ws : List V} (h1 : SqL K Hf p1 vs) (h2 : Hf p2 = some (.tup ws)) (r1 : RpL F K Hf ts vs) (r2 : RpL F K Hf us ws) : Wk F K Hf (ItzLT K p1 p2) (zipL ts us) := fun i H e => by
  have hs1 : SqL K H p1 vs := SqL.le e h1
  have hs2 : SqT K H p2 ws := .inl (.inl (e _ _ h2))
  refine ⟨fun t ht => ?_, fun hi => ⟨vs, ws, hs1, hs2, by rw [← r1.len, ← r2.len]; rw [zipL_len] at hi; exact hi.symm⟩⟩
  obtain ⟨t1, t2, hu1, hu2, rfl⟩ := zipL_get ht
  obtain ⟨v, k1, k2⟩ := r1.get hu1
  obtain ⟨w, k3, k4⟩ := r2.get hu2
  refine ⟨⟨vs, ws, v, w, hs1, hs2, k1, k3⟩, fun x H' ⟨p', y1, y2, e1, e2, e3, hx, hy⟩ => ?_⟩
  subst e1 e3
  have q1 := hx vs hs1
  rw [k1] at q1; cases q1
  have q2 := hy ws hs2
  rw [k3] at q2; cases q2
  exact pair_new e e2 k2 k4
theorem ei_zip {ma mb : M (T × Bool)} {p tpos : Pos} {elts : List Expr} {kk : Nat} (hs : ∀ x p, a ≠ .Starred x p) (hs2 : ∀ x p, b ≠ .Starred x p) (hg : Gl X "zip") (hm : X.mg "zip" = none) (h : PE X a (fE F X.K ma)) (h2 : PE X b (fE F X.K mb)) :
    PI X (.Tuple elts kk tpos) (.Call (.Name "zip" p) [a, b] [] pos) (fIt F X.K (do
      let (x, _) ← ma
      let (y, _) ← mb
      lift (zipF x y))) := by
  have h1 := one_of hs2 (env := X.env)
  refine (pi_zipX hg hm (pa_cons h (pa_cons h2 pa_nil (by rw [h1]; rfl)) (starEach_cons hs)) (starEach_cons hs) (by rw [h1]; rfl)).imp fun σ H R ⟨B, env, S, ts, env', h0, q⟩ => ?_
  obtain ⟨r, env1, a1, b1⟩ := bind_ok.mp h0
  obtain ⟨r', env2, a2, b2⟩ := bind_ok.mp b1
  obtain ⟨c3, e3⟩ := lift_ok.mp b2
  subst e3
  refine ⟨B, env, S, r, _, a1, fun v H1 p1 => ?_⟩
  obtain ⟨f1, l1, S1, rv1⟩ := p1.plain S
  refine ⟨B, env1, S1, r', _, a2, fun w H2 p2 => ?_⟩
  obtain ⟨f2, l2, S2, rv2⟩ := p2.plain S1
  have rv1 := rv1.le (mask_frm (B := B) l2 f2)
  unfold zipF at c3
  split at c3
  · rename_i xs ys hx hy
    cases c3
    rw [hx] at rv1
    rw [hy] at rv2
    simp only [Rp] at rv1 rv2
    obtain ⟨p, vs, rfl, k1, k2, k3⟩ := rv1
    obtain ⟨p', ws, rfl, k4, k5, k6⟩ := rv2
    refine ⟨p, p', vs, ws, rfl, .inl ⟨.inl (.inl (mask_le _ _ k1)), .inl (.inl (mask_le _ _ k4)), q _ H2 ⟨f1.trans l1 f2, l1.trans l2, S2, ?_, wk_zip (.inl (.inl k1)) (.inl (.inl k4)) k3 k6⟩⟩⟩
    rw [zipL_len, k3.len]; omega
  · rename_i xs ys hx hy
    cases c3
    rw [hx] at rv1
    rw [hy] at rv2
    simp only [Rp] at rv1 rv2
    obtain ⟨p, vs, rfl, k1, k2, k3⟩ := rv1
    obtain ⟨p', ws, rfl, k4, k5, k6⟩ := rv2
    refine ⟨p, p', vs, ws, rfl, .inr (.inl ⟨.inl (.inl (mask_le _ _ k1)), .inl (.inl (mask_le _ _ k4)), q _ H2 ⟨f1.trans l1 f2, l1.trans l2, S2, ?_, wk_zipT k1 k4 k3 k6⟩⟩)⟩
    rw [zipL_len, k3.len]; omega
  · rename_i xs ys hx hy
    cases c3
    rw [hx] at rv1
    rw [hy] at rv2
    simp only [Rp] at rv1 rv2
    obtain ⟨p, vs, rfl, k1, k2, k3⟩ := rv1
    obtain ⟨p', ws, rfl, k4, k5, k6⟩ := rv2
    refine ⟨p, p', vs, ws, rfl, .inr (.inr ⟨.inl (.inl (mask_le _ _ k1)), .inl (.inl (mask_le _ _ k4)), q _ H2 ⟨f1.trans l1 f2, l1.trans l2, S2, ?_, wk_zipLT (.inl (.inl k1)) k4 k3 k6⟩⟩)⟩
    rw [zipL_len, k3.len]; omega
  · cases c3
/-! ### list(range(..)), tuple(range(..)) -/
def fRg (F : Nat → Addr) (K : PySem.W.Frag) (m : M (Int × Int)) : L2.St → Hp → (Int → Int → Hp → Prop) → Prop := fun σ H Q => ∃ B env, Sim F K B env σ H ∧ ∃ ab env', m env = .ok ab env' ∧ ∀ H', Frm env σ H H' ∧ Le env env' ∧ Sim F K B env' σ H' → Q ab.1 ab.2 H'
theorem rgV_rp : ∀ (i j : Int), RpL F K Hm (rng i j) (rgV i j) := by
  intro i j
  unfold rng rgV
  have : ∀ l : List Nat, RpL F K Hm (l.map fun n : Nat => T.int (i + n)) (l.map fun n => V.int (i + (n : Nat))) := by
    intro l
    induction l with
    | nil => exact .nil
    | cons n l ih => exact .cons (by simp [Rp]) ih
  exact this _
theorem rg_ok {i j : Int} (k : -LIM ≤ i ∧ i ≤ LIM ∧ -LIM ≤ j ∧ j ≤ LIM) : RgOk i j := by
  have hlim : (LIM : Int) = 1000000 := rfl
  obtain ⟨k1, k2, k3, k4⟩ := k
  exact ⟨by omega, by omega, by omega, by omega, by omega⟩
theorem rgV_line {i j : Int} (k : -LIM ≤ i ∧ i ≤ LIM ∧ -LIM ≤ j ∧ j ≤ LIM) : (rgV i j).length ≤ sizeLine := by
  have hlim : (LIM : Int) = 1000000 := rfl
  rw [rgV_length, sizeLine_eq]; omega
theorem ee_lrng1 {ma : M Opd} {p p2 pos2 : Pos} (tp : Bool) (hs : ∀ x p, a ≠ .Starred x p) (hc : X.calm = true) (hg : Gl X "range") (hm : X.mg "range" = none) (hg2 : Gl X (if tp then "tuple" else "list")) (hm2 : X.mg (if tp then "tuple" else "list") = none) (h : PE X a (fO F X.K ma)) :
    PE X (.Call (.Name (if tp then "tuple" else "list") p) [.Call (.Name "range" p2) [a] [] pos2] [] pos) (fE F X.K (do
      let xs ← (do let x ← ma; let x ← res x; let i ← lift (asInt x); lift (rngT 0 i))
      M.pure (if tp then .tup xs else .lst xs, !tp))) := by
  have h1 := one_of hs (env := X.env)
  have key : ∀ σ H Q, fE F X.K (do let xs ← (do let x ← ma; let x ← res x; let i ← lift (asInt x); lift (rngT 0 i)); M.pure (if tp then T.tup xs else .lst xs, !tp)) σ H Q →
      tRg1 (fO F X.K ma) σ H fun a b H1 => RgOk a b ∧ ∀ q, H1 q = none → Q (.ref q) (upd H1 q (if tp then .tup (rgV a b) else .lst (rgV a b))) := fun σ H Q ⟨B, env, S, r, env', h0, q⟩ => by
    obtain ⟨xs, env9, a9, b9⟩ := bind_ok.mp h0
    obtain ⟨rfl, rfl⟩ := pure_ok.mp b9
    obtain ⟨x, env1, a1, b1⟩ := bind_ok.mp a9
    obtain ⟨t, env2, a2, b2⟩ := bind_ok.mp b1
    obtain ⟨n, env3, a3, b3⟩ := bind_ok.mp b2
    obtain ⟨c3, e3⟩ := lift_ok.mp a3
    subst e3
    obtain ⟨c4, e4⟩ := lift_ok.mp b3
    subst e4
    obtain ⟨rfl, k⟩ := rngT_ok c4
    refine one S a1 fun v H1 B1 f1 l1 e1 S1 r1 => ?_
    obtain ⟨g2, vx⟩ := r1.vr S1 a2
    subst g2
    refine ⟨n, asInt_vr c3 vx, rg_ok k, fun p hp => ?_⟩
    cases tp with
    | true => exact q _ _ ((NewR.tup (rgV_rp 0 n) mask_le hp (rgV_line k)).po S S1 e1 f1 l1)
    | false => exact q _ _ ((NewR.lst (rgV_rp 0 n) hp (rgV_line k)).po S S1 e1 f1 l1)
  cases tp with
  | true => exact (pe_tupRg hc hg2 hm2 (prg_1 hg hm h (by rw [h1]; rfl))).imp key
  | false => exact (pe_listRg hc hg2 hm2 (prg_1 hg hm h (by rw [h1]; rfl))).imp key
theorem ee_lrng2 {ma mb : M Opd} {p p2 pos2 : Pos} (tp : Bool) (hs : ∀ x p, a ≠ .Starred x p) (hs2 : ∀ x p, b ≠ .Starred x p) (hc : X.calm = true) (hg : Gl X "range") (hm : X.mg "range" = none) (hg2 : Gl X (if tp then "tuple" else "list")) (hm2 : X.mg (if tp then "tuple" else "list") = none)
    (h : PE X a (fO F X.K ma)) (h2 : PE X b (fO F X.K mb)) :
    PE X (.Call (.Name (if tp then "tuple" else "list") p) [.Call (.Name "range" p2) [a, b] [] pos2] [] pos) (fE F X.K (do
      let xs ← (do let x ← ma; let y ← mb; let x ← res x; let y ← res y; let i ← lift (asInt x); let j ← lift (asInt y); lift (rngT i j))
      M.pure (if tp then .tup xs else .lst xs, !tp))) := by
  have h1 := one_of hs2 (env := X.env)
  have key : ∀ σ H Q, fE F X.K (do let xs ← (do let x ← ma; let y ← mb; let x ← res x; let y ← res y; let i ← lift (asInt x); let j ← lift (asInt y); lift (rngT i j)); M.pure (if tp then T.tup xs else .lst xs, !tp)) σ H Q →
      tRg2 (fO F X.K ma) (fO F X.K mb) σ H fun a b H1 => RgOk a b ∧ ∀ q, H1 q = none → Q (.ref q) (upd H1 q (if tp then .tup (rgV a b) else .lst (rgV a b))) := fun σ H Q ⟨B, env, S, r, env', h0, q⟩ => by
    obtain ⟨xs, env9, a9, b9⟩ := bind_ok.mp h0
    obtain ⟨rfl, rfl⟩ := pure_ok.mp b9
    obtain ⟨x, env1, a1, b1⟩ := bind_ok.mp a9
    obtain ⟨y, env2, a2, b2⟩ := bind_ok.mp b1
    obtain ⟨t, env3, a3, b3⟩ := bind_ok.mp b2
    obtain ⟨u, env4, a4, b4⟩ := bind_ok.mp b3
    obtain ⟨m, env5, a5, b5⟩ := bind_ok.mp b4
    obtain ⟨c5, e5⟩ := lift_ok.mp a5
    subst e5
    obtain ⟨n, env6, a6, b6⟩ := bind_ok.mp b5
    obtain ⟨c6, e6⟩ := lift_ok.mp a6
    subst e6
    obtain ⟨c7, e7⟩ := lift_ok.mp b6
    subst e7
    obtain ⟨rfl, k⟩ := rngT_ok c7
    refine two S a1 a2 fun v w H2 B2 f2 l2 e2 S2 rx ry => ?_
    obtain ⟨g3, vx⟩ := rx.vr S2 a3
    subst g3
    obtain ⟨g4, vy⟩ := ry.vr S2 a4
    subst g4
    refine ⟨m, n, asInt_vr c5 vx, asInt_vr c6 vy, rg_ok k, fun p hp => ?_⟩
    cases tp with
    | true => exact q _ _ ((NewR.tup (rgV_rp m n) mask_le hp (rgV_line k)).po S S2 e2 f2 l2)
    | false => exact q _ _ ((NewR.lst (rgV_rp m n) hp (rgV_line k)).po S S2 e2 f2 l2)
  cases tp with
  | true => exact (pe_tupRg hc hg2 hm2 (prg_2 hg hm h h2 (starEach_cons hs) (by rw [h1]; rfl) (by rw [h1]; rfl))).imp key
  | false => exact (pe_listRg hc hg2 hm2 (prg_2 hg hm h h2 (starEach_cons hs) (by rw [h1]; rfl) (by rw [h1]; rfl))).imp key
end
end Ev

set_option Elab.async false
set_option linter.all false
set_option maxRecDepth 100000
set_option autoImplicit false
namespace Ev
open PySem PySem.Spec PyProof.Rows L2
open Classical
section
variable {F : Nat → Addr} {K : PySem.W.Frag} {X : Cx} {B B' B1 B2 : Addr → Prop} {env env' env0 env1 env2 : Env} {σ σ' σ1 σ2 : L2.St} {H H' H0 H1 H2 H3 Hm Hf : Hp} {v w : V} {x y o : Opd} {t : T} {e a b c tg : Expr} {pos : Pos} {rest : List Expr} {i : Nat} {J : L2.It} {ts us : List T} {own : List Nat}
/-! ### forgetting -/
theorem wipe_len : ∀ own : List Nat, (Ev.wipe env own).length = env.length
  | [] => rfl
  | v :: vs => by unfold Ev.wipe; rw [List.length_set, wipe_len vs]
theorem wipe_in : ∀ {own : List Nat}, i ∈ own → i < env.length → (Ev.wipe env own)[i]? = some .un
  | v :: vs, h, hl => by
    unfold Ev.wipe
    by_cases e : v = i
    · subst e; exact List.getElem?_set_self (by rw [wipe_len]; exact hl)
    · rw [List.getElem?_set_ne e]
      exact wipe_in ((List.mem_cons.mp h).resolve_left fun z => e z.symm) hl
theorem wipe_no : ∀ {own : List Nat}, i ∉ own → (Ev.wipe env own)[i]? = env[i]?
  | [], _ => rfl
  | v :: vs, h => by
    unfold Ev.wipe
    rw [List.getElem?_set_ne (show v ≠ i from fun z => h (by rw [z]; exact List.mem_cons_self))]
    exact wipe_no fun z => h (List.mem_cons_of_mem _ z)
theorem wipeS_in : ∀ {own : List Nat}, i ∈ own → i < σ.length → (L2.wipe σ own)[i]? = some none
  | v :: vs, h, hl => by
    unfold L2.wipe
    by_cases e : v = i
    · subst e; exact List.getElem?_set_self (by rw [wipe_length]; exact hl)
    · rw [List.getElem?_set_ne e]
      exact wipeS_in ((List.mem_cons.mp h).resolve_left fun z => e z.symm) hl
theorem wipeS_no : ∀ {own : List Nat}, i ∉ own → (L2.wipe σ own)[i]? = σ[i]?
  | [], _ => rfl
  | v :: vs, h => by
    unfold L2.wipe
    rw [List.getElem?_set_ne (show v ≠ i from fun z => h (by rw [z]; exact List.mem_cons_self))]
    exact wipeS_no fun z => h (List.mem_cons_of_mem _ z)
theorem unwipe_len : ∀ own : List Nat, (unwipe env env1 own).length = env1.length
  | [] => rfl
  | v :: vs => by unfold unwipe; rw [List.length_set, unwipe_len vs]
theorem unwipe_in : ∀ {own : List Nat}, i ∈ own → i < env1.length → (unwipe env env1 own)[i]? = some (env.getD i .un)
  | v :: vs, h, hl => by
    unfold unwipe
    by_cases e : v = i
    · subst e; exact List.getElem?_set_self (by rw [unwipe_len]; exact hl)
    · rw [List.getElem?_set_ne e]
      exact unwipe_in ((List.mem_cons.mp h).resolve_left fun z => e z.symm) hl
theorem unwipe_no : ∀ {own : List Nat}, i ∉ own → (unwipe env env1 own)[i]? = env1[i]?
  | [], _ => rfl
  | v :: vs, h => by
    unfold unwipe
    rw [List.getElem?_set_ne (show v ≠ i from fun z => h (by rw [z]; exact List.mem_cons_self))]
    exact unwipe_no fun z => h (List.mem_cons_of_mem _ z)
theorem wipe_some {s : Sl} (h : (Ev.wipe env own)[i]? = some s) (hs : s ≠ .un) : env[i]? = some s ∧ i ∉ own := by
  by_cases m : i ∈ own
  · have hl : i < env.length := by rw [← wipe_len own]; exact (List.getElem?_eq_some_iff.mp h).1
    rw [wipe_in m hl] at h; cases h; exact absurd rfl hs
  · rw [wipe_no m] at h; exact ⟨h, m⟩
theorem isOwn_wipe (h : isOwn (Ev.wipe env own)[i]?) : isOwn env[i]? ∧ i ∉ own := by
  obtain ⟨s, e, z⟩ := getElem_of_isOwn h
  obtain ⟨e1, e2⟩ := wipe_some e (fun q => by subst q; exact z)
  exact ⟨by rw [e1]; exact z, e2⟩
theorem own_wipe {a : Addr} (h : ownA (Ev.wipe env own) (L2.wipe σ own) a) : ownA env σ a := by
  obtain ⟨j, h1, h2⟩ := h
  obtain ⟨k1, k2⟩ := isOwn_wipe h1
  rw [wipeS_no k2] at h2
  exact ⟨j, k1, h2⟩
theorem mask_wipe : Hle (mask (MK B env σ) H) (mask (MK B (Ev.wipe env own) (L2.wipe σ own)) H) := fun a u q => by
  obtain ⟨h1, h2⟩ := mask_some.mp q
  exact mask_some.mpr ⟨fun z => h1 (z.elim .inl fun z => .inr (own_wipe z)), h2⟩
theorem Sim.wipe (S : Sim F K B env σ H) (own : List Nat) : Sim F K B (Ev.wipe env own) (L2.wipe σ own) H := by
  refine ⟨by rw [wipe_len, wipe_length]; exact S.len, fun i t q => ?_, fun i s q z => ?_, fun i j a h1 h2 h3 h4 => ?_, S.bt⟩
  · obtain ⟨e1, e2⟩ := wipe_some q (fun z => nomatch z)
    obtain ⟨v, h1, h2⟩ := S.sh i t e1
    exact ⟨v, by rw [wipeS_no e2]; exact h1, h2.le mask_wipe⟩
  · obtain ⟨e1, e2⟩ := wipe_some q (fun q => by subst q; exact z)
    obtain ⟨a, h1, h2, h3⟩ := S.ow i s e1 z
    exact ⟨a, by rw [wipeS_no e2]; exact h1, h2.le mask_wipe rfl, h3⟩
  · obtain ⟨k1, k2⟩ := isOwn_wipe h1
    obtain ⟨k3, k4⟩ := isOwn_wipe h2
    rw [wipeS_no k2] at h3
    rw [wipeS_no k4] at h4
    exact S.ds i j a k1 k3 h3 h4
theorem turn_ok {α : Type} {m : M α} {r : α} : turn own m env = .ok r env' ↔ ∃ e1, m env = .ok r e1 ∧ env' = Ev.wipe e1 own := by
  unfold turn
  cases h : m env with
  | ok a e => exact ⟨fun z => by cases z; exact ⟨e, rfl, rfl⟩, fun ⟨e1, h1, h2⟩ => by cases h1; rw [h2]⟩
  | ex c a e => exact ⟨fun z => (nomatch z), fun ⟨_, h1, _⟩ => nomatch h1⟩
  | bad => exact ⟨fun z => (nomatch z), fun ⟨_, h1, _⟩ => nomatch h1⟩
theorem block_ok {α : Type} {m : M α} {r : α} (h : block own m env = .ok r env') : (∀ i ∈ own, ∀ t, env[i]? ≠ some (.io t)) ∧ ∃ e1, m (Ev.wipe env own) = .ok r e1 ∧ env' = unwipe env e1 own := by
  unfold block at h
  split at h
  · rename_i c
    refine ⟨fun i m t q => ?_, ?_⟩
    · unfold noIo at c
      have := List.all_eq_true.mp c i m
      rw [(getD_of (s := .io t) (fun z => nomatch z)).mpr q] at this
      cases this
    · split at h
      · rename_i x e1 hm
        cases h
        exact ⟨e1, hm, rfl⟩
      · cases h
  · cases h
/-- slots through a wipe -/
theorem wipeS_stp (hl : σ'.length = σ.length) (h : ∀ i, i ∉ own → σ'[i]? = σ[i]?) : L2.wipe σ' own = L2.wipe σ own := by
  refine List.ext_getElem? fun i => ?_
  by_cases m : i ∈ own
  · by_cases hi : i < σ.length
    · rw [wipeS_in m (by rw [hl]; exact hi), wipeS_in m hi]
    · rw [List.getElem?_eq_none (by rw [wipe_length, hl]; omega), List.getElem?_eq_none (by rw [wipe_length]; omega)]
  · rw [wipeS_no m, wipeS_no m, h i m]
theorem wipeS_wipeS {own own1 : List Nat} (h : ∀ i ∈ own1, i ∈ own) : L2.wipe (L2.wipe σ own1) own = L2.wipe σ own :=
  wipeS_stp (wipe_length _ _) fun i n => wipeS_no fun m => n (h i m)
/-- the list under work -/
structure CS (F : Nat → Addr) (K : PySem.W.Frag) (Bi : Addr → Prop) (D : Addr) (H1 : Hp) (O : Addr → Prop) (vs : List Nat) (env_in : Env) (σi σ : L2.St) (env : Env) (acc : List T) (H : Hp) : Prop where
  sim : Sim F K Bi env σ H
  lst : ∃ ws, H D = some (.lst ws) ∧ ws.length ≤ sizeLine ∧ RpL F K (mask (MK Bi env σ) H) acc ws
  own : ∀ a, ownA env σ a → O a ∨ H1 a = none
  keep : ∀ a o, H1 a = some o → ¬ O a → H a = some o
  lost : ∀ a, H a = none → H1 a = none
  slots : ∀ i : Nat, i ∉ vs → σ[i]? = σi[i]? ∧ (isOwn env[i]? → isOwn env_in[i]?)
  io : ∀ (i : Nat) (t : T), env_in[i]? = some (.io t) → ∃ t', env[i]? = some (.io t')
  oi : ∀ (i : Nat) (t : T), env[i]? = some (.io t) → ∃ t', env_in[i]? = some (.io t')
  len : env.length = env_in.length
variable {Bi O : Addr → Prop} {D : Addr} {vs : List Nat} {env_in : Env} {σi : L2.St} {acc : List T}
theorem mask_spo (st : SPo F K B env env' σ σ' H H') : Hle (mask (MK B env σ) H) (mask (MK B env' σ') H') := fun a u z => by
  obtain ⟨z1, z2⟩ := mask_some.mp z
  refine mask_some.mpr ⟨fun z3 => ?_, st.frm.keep a u z2 fun z3 => z1 (.inr z3)⟩
  rcases z3 with z3 | z3
  · exact z1 (.inl z3)
  · rcases st.own a z3 with z4 | z4
    · exact z1 (.inr z4)
    · rw [z4] at z2; cases z2
theorem own_notB (S : Sim F K B env σ H) {a : Addr} (h : ownA env σ a) : ¬ B a := by
  obtain ⟨j, z1, z2⟩ := h
  obtain ⟨s, q, z⟩ := getElem_of_isOwn z1
  obtain ⟨b, e1, _, e3⟩ := S.ow j s q z
  rw [z2] at e1; cases e1
  exact e3
theorem CS.step (hD : Bi D) (h : CS F K Bi D H1 O vs env_in σi σ env acc H) (st : SPo F K Bi env env' σ σ' H H') (sp : Stp (· ∈ vs) env env' σ σ') : CS F K Bi D H1 O vs env_in σi σ' env' acc H' := by
  obtain ⟨ws, w1, w2, w3⟩ := h.lst
  refine ⟨st.sim, ⟨ws, st.frm.keep D _ w1 fun z => own_notB h.sim z hD, w2, w3.le (mask_spo st)⟩, fun a z => ?_, fun a o q n => ?_, fun a z => h.lost a (st.frm.lost a z), fun i n => ?_, fun i t z => ?_, fun i t z => ?_, st.len.trans h.len⟩
  · rcases st.own a z with z | z
    · exact h.own a z
    · exact .inr (h.lost a z)
  · exact st.frm.keep a o (h.keep a o q n) fun z => (h.own a z).elim n fun z => by rw [z] at q; cases q
  · exact ⟨(sp i n).1.trans (h.slots i n).1, fun z => (h.slots i n).2 ((sp i n).2 z)⟩
  · obtain ⟨t', z'⟩ := h.io i t z
    exact (st.io i t' z').1
  · obtain ⟨t', z'⟩ := st.oi i t z
    exact h.oi i t' z'
theorem CS.grow (h : CS F K Bi D H1 O vs env_in σi σ env acc H) (g : Hle H H') : CS F K Bi D H1 O vs env_in σi σ env acc H' := by
  obtain ⟨ws, w1, w2, w3⟩ := h.lst
  exact ⟨h.sim.grow g, ⟨ws, g _ _ w1, w2, w3.le (mask_of fun a o _ q => g a o q)⟩, h.own, fun a o q n => g _ _ (h.keep a o q n), fun a z => h.lost a (g.lost a z), h.slots, h.io, h.oi, h.len⟩
theorem CS.wipe (h : CS F K Bi D H1 O vs env_in σi σ env acc H) {own : List Nat} (hs : ∀ i ∈ own, i ∈ vs) (hio : ∀ i ∈ own, ∀ t, env_in[i]? ≠ some (.io t)) : CS F K Bi D H1 O vs env_in σi (L2.wipe σ own) (Ev.wipe env own) acc H := by
  obtain ⟨ws, w1, w2, w3⟩ := h.lst
  refine ⟨h.sim.wipe own, ⟨ws, w1, w2, w3.le mask_wipe⟩, fun a z => h.own a (own_wipe z), h.keep, h.lost, fun i n => ?_, fun i t z => ?_, fun i t z => ?_, by rw [wipe_len]; exact h.len⟩
  · have : i ∉ own := fun m => n (hs i m)
    rw [wipeS_no this, wipe_no this]
    exact h.slots i n
  · by_cases m : i ∈ own
    · exact absurd z (hio i m t)
    · rw [wipe_no m]; exact h.io i t z
  · obtain ⟨e1, e2⟩ := wipe_some z (fun q => nomatch q)
    exact h.oi i t e1
/-- one more item -/
theorem CS.app (hD : Bi D) (hD1 : H1 D = none) (h : CS F K Bi D H1 O vs env_in σi σ env acc H) (r : Rp F K (mask (MK Bi env σ) H) t v) (hl : acc.length + 1 ≤ sizeLine) :
    ∃ ws, H D = some (.lst ws) ∧ ws.length < sizeLine ∧ CS F K Bi D H1 O vs env_in σi σ env (acc ++ [t]) (upd H D (.lst (ws ++ [v]))) := by
  obtain ⟨ws, w1, w2, w3⟩ := h.lst
  have hlt : ws.length < sizeLine := by rw [← w3.len]; exact hl
  have m : Hle (mask (MK Bi env σ) H) (mask (MK Bi env σ) (upd H D (.lst (ws ++ [v])))) := mask_of fun a o n q => by
    rw [upd_ne fun e => n (.inl (by rw [e]; exact hD))]; exact q
  have no : ∀ a, ownA env σ a → a ≠ D := fun a z e => own_notB h.sim z (by rw [e]; exact hD)
  refine ⟨ws, w1, hlt, ⟨h.sim.len, fun i u q => ?_, fun i s q z => ?_, h.sim.ds, fun a z => ?_⟩, ⟨_, upd_same, by rw [List.length_append]; exact hlt, (w3.append (.one r)).le m⟩, h.own, fun a o q n => ?_, fun a z => ?_, h.slots, h.io, h.oi, h.len⟩
  · obtain ⟨v, k1, k2⟩ := h.sim.sh i u q
    exact ⟨v, k1, k2.le m⟩
  · obtain ⟨b, k1, k2, k3⟩ := h.sim.ow i s q z
    exact ⟨b, k1, k2.le m (by rw [upd_ne (no b ⟨i, by rw [q]; exact z, k1⟩)]), k3⟩
  · by_cases e : a = D
    · rw [e, upd_same]; exact fun z => nomatch z
    · rw [upd_ne e]; exact h.sim.bt a z
  · have e : a ≠ D := fun e => by rw [e, hD1] at q; cases q
    rw [upd_ne e]; exact h.keep a o q n
  · by_cases e : a = D
    · rw [e, upd_same] at z; cases z
    · rw [upd_ne e] at z; exact h.lost a z
/-- the start -/
theorem CS.start (S : Sim F K B env σ H) (hD : H D = none) (hio : ∀ i ∈ vs, ∀ t, env[i]? ≠ some (.io t)) :
    CS F K (fun a => B a ∨ (ownA env σ a ∧ ¬ ownA (Ev.wipe env vs) (L2.wipe σ vs) a) ∨ a = D) D H (ownA (Ev.wipe env vs) (L2.wipe σ vs)) vs (Ev.wipe env vs) (L2.wipe σ vs) (L2.wipe σ vs) (Ev.wipe env vs) [] (upd H D (.lst [])) := by
  have hg : Hle H (upd H D (.lst [])) := upd_le hD
  have S1 := S.wipe vs
  have m : Hle (mask (MK B env σ) H) (mask (MK (fun a => B a ∨ (ownA env σ a ∧ ¬ ownA (Ev.wipe env vs) (L2.wipe σ vs) a) ∨ a = D) (Ev.wipe env vs) (L2.wipe σ vs)) (upd H D (.lst []))) := fun a o q => by
    obtain ⟨h1, h2⟩ := mask_some.mp q
    refine mask_some.mpr ⟨fun z => ?_, hg a o h2⟩
    rcases z with (z | z | z) | z
    · exact h1 (.inl z)
    · exact h1 (.inr z.1)
    · rw [z, hD] at h2; cases h2
    · exact h1 (.inr (own_wipe z))
  refine ⟨⟨S1.len, fun i t q => ?_, fun i s q z => ?_, S1.ds, fun a z => ?_⟩, ⟨[], upd_same, Nat.zero_le _, .nil⟩, fun a z => .inl z, fun a o q _ => hg a o q, hg.lost, fun i n => ⟨rfl, fun z => z⟩, fun i t z => ⟨t, z⟩, fun i t z => ⟨t, z⟩, rfl⟩
  · obtain ⟨e1, e2⟩ := wipe_some q (fun z => nomatch z)
    obtain ⟨v, h1, h2⟩ := S.sh i t e1
    exact ⟨v, by rw [wipeS_no e2]; exact h1, h2.le m⟩
  · obtain ⟨e1, e2⟩ := wipe_some q (fun q => by subst q; exact z)
    obtain ⟨a, h1, h2, h3⟩ := S.ow i s e1 z
    have hne : a ≠ D := fun e => by rw [e] at h2; exact h2.tracked hD
    refine ⟨a, by rw [wipeS_no e2]; exact h1, h2.le m (by rw [upd_ne hne]), fun q2 => ?_⟩
    rcases q2 with q2 | q2 | q2
    · exact h3 q2
    · exact q2.2 ⟨i, by rw [q]; exact z, by rw [wipeS_no e2]; exact h1⟩
    · exact hne q2
  · rcases z with z | z | z
    · exact fun q => S.bt a z (hg.lost a q)
    · exact fun q => S.own_some z.1 (hg.lost a q)
    · rw [z, upd_same]; exact fun z => nomatch z
theorem getD_eq {s : Sl} (h : env[i]? = some s) : env.getD i .un = s := by simp [List.getD, h]
/-- the end -/
theorem CS.finish (S : Sim F K B env σ H1) (hD : H1 D = none)
    (h : CS F K (fun a => B a ∨ (ownA env σ a ∧ ¬ ownA (Ev.wipe env vs) (L2.wipe σ vs) a) ∨ a = D) D H1 (ownA (Ev.wipe env vs) (L2.wipe σ vs)) vs (Ev.wipe env vs) (L2.wipe σ vs) (L2.wipe σ vs) env' acc H) (hvs : ∀ i ∈ vs, ∀ t, env[i]? ≠ some (.io t)) :
    Pst F K B env (unwipe env env' vs) σ H1 (.own (.lst acc)) (.ref D) H := by
  have hlen : env'.length = env.length := by rw [h.len, wipe_len]
  have hσl : σ.length = env.length := S.len.symm
  -- own slots behind the block
  have ownk : ∀ i, isOwn (unwipe env env' vs)[i]? → (i ∈ vs ∧ isOwn env[i]? ∧ (unwipe env env' vs)[i]? = env[i]?) ∨ (i ∉ vs ∧ isOwn env'[i]? ∧ (unwipe env env' vs)[i]? = env'[i]?) := fun i z => by
    by_cases m : i ∈ vs
    · have hl : i < env'.length := by
        obtain ⟨s, q, _⟩ := getElem_of_isOwn z
        rw [← unwipe_len (env := env) vs]; exact (List.getElem?_eq_some_iff.mp q).1
      have e := unwipe_in (env := env) m hl
      have hl2 : i < env.length := by omega
      have e2 : env.getD i .un = env[i] := by simp [List.getD, List.getElem?_eq_getElem hl2]
      rw [e2] at e
      have e3 : (unwipe env env' vs)[i]? = env[i]? := by rw [e, List.getElem?_eq_getElem hl2]
      exact .inl ⟨m, by rw [← e3]; exact z, e3⟩
    · have e := unwipe_no (env := env) (env1 := env') m
      exact .inr ⟨m, by rw [← e]; exact z, e⟩
  have own1 : ∀ a, ownA (unwipe env env' vs) σ a → ownA env σ a := fun a ⟨i, z1, z2⟩ => by
    rcases ownk i z1 with ⟨_, k, _⟩ | ⟨m, k, _⟩
    · exact ⟨i, k, z2⟩
    · have := (h.slots i m).2 k
      exact ⟨i, (isOwn_wipe this).1, z2⟩
  have wiped : ∀ {i : Nat} {a : Addr}, i ∈ vs → isOwn env[i]? → σ[i]? = some (some (V.ref a)) → ¬ ownA (Ev.wipe env vs) (L2.wipe σ vs) a := fun {i a} m z1 z2 ⟨j, k1, k2⟩ => by
    obtain ⟨k3, k4⟩ := isOwn_wipe k1
    rw [wipeS_no k4] at k2
    have := S.ds i j a z1 k3 z2 k2
    subst this
    exact k4 m
  have mB : ∀ a, MK (fun a => B a ∨ a = D) (unwipe env env' vs) σ a → MK (fun a => B a ∨ (ownA env σ a ∧ ¬ ownA (Ev.wipe env vs) (L2.wipe σ vs) a) ∨ a = D) env' (L2.wipe σ vs) a := fun a z => by
    rcases z with (z | z) | ⟨i, z1, z2⟩
    · exact .inl (.inl z)
    · exact .inl (.inr (.inr z))
    · rcases ownk i z1 with ⟨m, k, _⟩ | ⟨m, k, _⟩
      · exact .inl (.inr (.inl ⟨⟨i, k, z2⟩, wiped m k z2⟩))
      · exact .inr ⟨i, k, by rw [wipeS_no m]; exact z2⟩
  have m1 : Hle (mask (MK (fun a => B a ∨ (ownA env σ a ∧ ¬ ownA (Ev.wipe env vs) (L2.wipe σ vs) a) ∨ a = D) env' (L2.wipe σ vs)) H) (mask (MK (fun a => B a ∨ a = D) (unwipe env env' vs) σ) H) := fun a o q => by
    obtain ⟨h1, h2⟩ := mask_some.mp q
    exact mask_some.mpr ⟨fun z => h1 (mB a z), h2⟩
  have m2 : Hle (mask (MK B env σ) H1) (mask (MK (fun a => B a ∨ a = D) (unwipe env env' vs) σ) H) := fun a o q => by
    obtain ⟨h1, h2⟩ := mask_some.mp q
    refine mask_some.mpr ⟨fun z => ?_, h.keep a o h2 fun z => h1 (.inr (own_wipe z))⟩
    rcases z with (z | z) | z
    · exact h1 (.inl z)
    · rw [z, hD] at h2; cases h2
    · exact h1 (.inr (own1 a z))
  have lo : Le env (unwipe env env' vs) := by
    refine ⟨by rw [unwipe_len]; exact hlen, fun i z => ?_, fun i t z => ?_, fun i t z => ?_⟩
    · rcases ownk i z with ⟨_, k, _⟩ | ⟨m, k, _⟩
      · exact k
      · exact (isOwn_wipe ((h.slots i m).2 k)).1
    · by_cases m : i ∈ vs
      · exact absurd z (hvs i m t)
      · obtain ⟨t', z'⟩ := h.io i t (by rw [wipe_no m]; exact z)
        exact ⟨t', by rw [unwipe_no m]; exact z'⟩
    · rcases ownk i (by rw [z]; trivial) with ⟨_, k, e⟩ | ⟨m, k, e⟩
      · exact ⟨t, by rw [← e]; exact z⟩
      · rw [e] at z
        obtain ⟨t', z'⟩ := h.oi i t z
        exact ⟨t', (wipe_some z' (fun q => nomatch q)).1⟩
  obtain ⟨ws, w1, w2, w3⟩ := h.lst
  refine ⟨⟨fun a o q n => h.keep a o q fun z => n (own_wipe z), h.lost⟩, lo, fun a => B a ∨ a = D, ⟨fun a z => .inl z, fun a z => z.elim .inl fun z => .inr (by rw [z]; exact hD)⟩, ⟨?_, fun i t q => ?_, fun i s q z => ?_, fun i j a h1 h2 h3 h4 => ?_, fun a z => ?_⟩, ⟨D, rfl, .inr rfl, ⟨ws, w1, w2, w3.le m1⟩⟩, fun t _ => ⟨D, rfl, hD⟩⟩
  · rw [unwipe_len, hlen]; exact S.len
  · by_cases m : i ∈ vs
    · have hl : i < env'.length := by rw [← unwipe_len (env := env) vs]; exact (List.getElem?_eq_some_iff.mp q).1
      have hl2 : i < env.length := by omega
      have e := unwipe_in (env := env) m hl
      have e2 : env.getD i .un = env[i] := by simp [List.getD, List.getElem?_eq_getElem hl2]
      rw [e2] at e
      rw [e] at q
      obtain ⟨v, k1, k2⟩ := S.sh i t (by rw [List.getElem?_eq_getElem hl2]; exact q)
      exact ⟨v, k1, k2.le m2⟩
    · rw [unwipe_no m] at q
      obtain ⟨v, k1, k2⟩ := h.sim.sh i t q
      rw [wipeS_no m] at k1
      exact ⟨v, k1, k2.le m1⟩
  · rcases ownk i (by rw [q]; exact z) with ⟨m, k, e⟩ | ⟨m, k, e⟩
    · rw [e] at q
      obtain ⟨b, k1, k2, k3⟩ := S.ow i s q z
      have hb : H1 b = H b := by
        cases r : H1 b with
        | none => exact absurd r k2.tracked
        | some u => exact (h.keep b u r (wiped m k k1)).symm
      exact ⟨b, k1, k2.le m2 hb, fun z => z.elim k3 fun z => by subst z; exact k2.tracked hD⟩
    · rw [e] at q
      obtain ⟨b, k1, k2, k3⟩ := h.sim.ow i s q z
      rw [wipeS_no m] at k1
      exact ⟨b, k1, k2.le m1 rfl, fun z => k3 (z.elim .inl fun z => .inr (.inr z))⟩
  · rcases ownk i h1 with ⟨m, k, _⟩ | ⟨m, k, _⟩
    · rcases ownk j h2 with ⟨m', k', _⟩ | ⟨m', k', _⟩
      · exact S.ds i j a k k' h3 h4
      · exfalso
        obtain ⟨s, q, z⟩ := getElem_of_isOwn k'
        obtain ⟨b, e1, _, e3⟩ := h.sim.ow j s q z
        rw [wipeS_no m', h4] at e1; cases e1
        exact e3 (.inr (.inl ⟨⟨i, k, h3⟩, wiped m k h3⟩))
    · rcases ownk j h2 with ⟨m', k', _⟩ | ⟨m', k', _⟩
      · exfalso
        obtain ⟨s, q, z⟩ := getElem_of_isOwn k
        obtain ⟨b, e1, _, e3⟩ := h.sim.ow i s q z
        rw [wipeS_no m, h3] at e1; cases e1
        exact e3 (.inr (.inl ⟨⟨j, k', h4⟩, wiped m' k' h4⟩))
      · exact h.sim.ds i j a k k' (by rw [wipeS_no m]; exact h3) (by rw [wipeS_no m']; exact h4)
  · rcases z with z | z
    · intro q; exact S.bt a z (h.lost a q)
    · rw [z, w1]; exact fun z => nomatch z
end
end Ev

set_option Elab.async false
set_option linter.all false
set_option maxRecDepth 100000
set_option autoImplicit false
namespace Ev
open PySem PySem.Spec PyProof.Rows L2
open Classical
section
variable {F : Nat → Addr} {K : PySem.W.Frag} {X : Cx} {B B' B1 B2 : Addr → Prop} {env env' env0 env1 env2 : Env} {σ σ' σ1 σ2 σb : L2.St} {H H' H0 H1 H2 H3 Hm Hf Hw : Hp} {v w : V} {x y o : Opd} {t : T} {e a b c tg : Expr} {pos : Pos} {rest : List Expr} {i : Nat} {J : L2.It} {ts us : List T} {own : List Nat}
variable {Bi O : Addr → Prop} {D : Addr} {vs vs1 : List Nat} {env_in : Env} {σi : L2.St} {acc : List T}
theorem loop_each {step : T → M (List T)} {Body : V → Hp → (Hp → Prop) → Prop} {C : Env → List T → Hp → Prop} {Fin : Hp → Prop} {xs acc0 rest : List T} {e3 : Env}
    (wk : Wk F K Hw J xs) (hC : ∀ env acc H, C env acc H → Hle Hw H)
    (ht : ∀ (x : T) (a : List T) (env env' : Env) (acc : List T) (H : Hp) (x' : V) (H' : Hp), C env acc H → step x env = .ok a env' → (acc ++ a).length ≤ LIM → Hle H H' →
      (∃ Hx, Hle Hx H' ∧ (∀ a o, Hx a = some o → Hw a = some o ∨ H a = none) ∧ Rp F K Hx x x') → ∀ Nx : Hp → Prop, (∀ H'', C env' (acc ++ a) H'' → Nx H'') → Body x' H' Nx)
    (hs : C env0 acc0 H0) (he : each step xs env0 = .ok rest e3) (hlim : (acc0 ++ rest).length ≤ LIM) (hf : ∀ H, C e3 (acc0 ++ rest) H → Fin H) :
    ∃ W : Nat → Nat → Hp → Prop, (∃ m, W 0 m H0) ∧ ∀ i m H, W i m H →
      (J.stop i H ∧ Fin H) ∨ (J.go i H ∧ ∃ Nx : Hp → Prop, (∀ H', Nx H' → ∃ m', m' < m ∧ W (i + 1) m' H') ∧ ∀ x H', J.yld i H x H' → Body x H' Nx) := by
  refine ⟨fun i m H => m = xs.length - i ∧ i ≤ xs.length ∧ ∃ env acc r, C env acc H ∧ each step (xs.drop i) env = .ok r e3 ∧ acc ++ r = acc0 ++ rest, ⟨xs.length, by simp, Nat.zero_le _, env0, acc0, rest, hs, he, rfl⟩, ?_⟩
  rintro i m H ⟨rfl, hi, env, acc, r, hc, hr, hr2⟩
  obtain ⟨w1, w2⟩ := wk i H (hC _ _ _ hc)
  by_cases hlt : i < xs.length
  · rw [List.drop_eq_getElem_cons hlt] at hr
    obtain ⟨a, env1, a1, b1⟩ := bind_ok.mp hr
    obtain ⟨r', env2, a2, b2⟩ := bind_ok.mp b1
    obtain ⟨rfl, rfl⟩ := pure_ok.mp b2
    obtain ⟨go, hy⟩ := w1 _ (List.getElem?_eq_getElem hlt)
    have hr3 : (acc ++ a) ++ r' = acc0 ++ rest := by rw [List.append_assoc]; exact hr2
    refine .inr ⟨go, fun H' => C env1 (acc ++ a) H', fun H' hn => ⟨xs.length - (i + 1), by omega, rfl, hlt, env1, acc ++ a, r', hn, a2, hr3⟩, fun x H' y => ?_⟩
    obtain ⟨g1, g2⟩ := hy x H' y
    refine ht _ a env env1 acc H x H' hc a1 ?_ g1 g2 _ fun _ z => z
    have := congrArg List.length hr3
    rw [List.length_append] at this
    omega
  · have e : i = xs.length := by omega
    subst e
    rw [List.drop_length] at hr
    obtain ⟨rfl, rfl⟩ := pure_ok.mp hr
    rw [List.append_nil] at hr2
    subst hr2
    exact .inl ⟨w2 rfl, hf H hc⟩
def stepM (vs : List Nat) (g : T × Bool → M Unit) (mt : M Bool) (me : M (T × Bool)) (x : T) : M (List T) := turn vs (do
  g (x, false)
  let b ← mt
  if b then do
    let (y, _) ← me
    M.pure [y]
  else M.pure [])
/-- what a walk leans on: it stands, and is nobody's own -/
def Wn (Hw : Hp) (Bi : Addr → Prop) (env : Env) (σ : L2.St) (H : Hp) : Prop := ∀ a o, Hw a = some o → H a = some o ∧ ¬ MK Bi env σ a
theorem Wn.step (w : Wn Hw Bi env σ H) (st : SPo F K Bi env env' σ σ' H H') : Wn Hw Bi env' σ' H' := fun a o q => by
  obtain ⟨h1, h2⟩ := w a o q
  refine ⟨st.frm.keep a o h1 fun z => h2 (.inr z), fun z => ?_⟩
  rcases z with z | z
  · exact h2 (.inl z)
  · rcases st.own a z with z | z
    · exact h2 (.inr z)
    · rw [z] at h1; cases h1
theorem Wn.grow (w : Wn Hw Bi env σ H) (g : Hle H H') : Wn Hw Bi env σ H' := fun a o q => ⟨g a o (w a o q).1, (w a o q).2⟩
theorem Wn.wipe (w : Wn Hw Bi env σ H) (own : List Nat) : Wn Hw Bi (Ev.wipe env own) (L2.wipe σ own) H := fun a o q => ⟨(w a o q).1, fun z => (w a o q).2 (z.elim .inl fun z => .inr (own_wipe z))⟩
theorem Wn.app (w : Wn Hw Bi env σ H) (hD : Bi D) (u : HO) : Wn Hw Bi env σ (upd H D u) := fun a o q => by
  obtain ⟨h1, h2⟩ := w a o q
  refine ⟨?_, h2⟩
  rw [upd_ne fun e => h2 (.inl (by rw [e]; exact hD))]; exact h1
/-- what the iterator hands out, laid -/
theorem Wn.val (S : Sim F K Bi env σ H) (w : Wn Hw Bi env σ H) (g : Hle H H') (hx : ∃ Hx, Hle Hx H' ∧ (∀ a o, Hx a = some o → Hw a = some o ∨ H a = none) ∧ Rp F K Hx t v) : Rp F K (mask (MK Bi env σ) H') t v := by
  obtain ⟨Hx, h1, h2, h3⟩ := hx
  refine h3.le fun a o q => mask_some.mpr ⟨fun z => ?_, h1 a o q⟩
  rcases h2 a o q with q' | q'
  · exact (w a o q').2 z
  · exact S.mk_some z q'
theorem Sim.lenEq (S : Sim F K B env σ H) (S' : Sim F K B' env' σ' H') (h : env'.length = env.length) : σ'.length = σ.length := by rw [← S.len, ← S'.len, h]
/-- a turn -/
theorem turn_body {g : T × Bool → M Unit} {mt : M Bool} {me : M (T × Bool)} (hD : Bi D) (hD1 : H1 D = none) (hσ : L2.wipe σb vs1 = σb) (hsub : ∀ i ∈ vs1, i ∈ vs) (hio : ∀ i ∈ vs1, ∀ t, env_in[i]? ≠ some (.io t)) :
    ∀ (x : T) (a : List T) (env env' : Env) (acc : List T) (H : Hp) (x' : V) (H' : Hp), (CS F K Bi D H1 O vs env_in σi σb env acc H ∧ Wn Hw Bi env σb H) → stepM vs1 g mt me x env = .ok a env' → (acc ++ a).length ≤ LIM → Hle H H' →
      (∃ Hx, Hle Hx H' ∧ (∀ a o, Hx a = some o → Hw a = some o ∨ H a = none) ∧ Rp F K Hx x x') → ∀ Nx : Hp → Prop, (∀ H'', (CS F K Bi D H1 O vs env_in σi σb env' (acc ++ a) H'' ∧ Wn Hw Bi env' σb H'') → Nx H'') →
      fG F K (· ∈ vs1) g x' σb H' fun σ3 H5 => L2.wipe σ3 vs1 = σb ∧ fT F K mt σ3 H5 fun b H6 =>
        if b = true then fE F K me σ3 H6 fun y H7 => ∃ acc, H7 D = some (.lst acc) ∧ acc.length < sizeLine ∧ Nx (upd H7 D (.lst (acc ++ [y]))) else Nx H6 := by
  intro x a env env' acc H x' H' ⟨cs, wn⟩ hst hlim hg hx Nx hN
  obtain ⟨e9, a9, rfl⟩ := turn_ok.mp hst
  obtain ⟨u, env1, a1, b1⟩ := bind_ok.mp a9
  obtain ⟨b, env2, a2, b2⟩ := bind_ok.mp b1
  have cs1 := cs.grow hg
  have wn1 := wn.grow hg
  refine ⟨Bi, env, env, H', (x, false), cs1.sim, .mk .refl .refl cs1.sim (wn.val cs.sim hg hx), env1, a1, fun σ3 H5 st sp => ?_⟩
  have sp' : Stp (· ∈ vs) env env1 σb σ3 := fun i n => sp i fun m => n (hsub i m)
  have cs2 := cs1.step hD st sp'
  have wn2 := wn1.step st
  have hwipe : L2.wipe σ3 vs1 = σb := by
    rw [← hσ]
    exact (wipeS_stp (cs1.sim.lenEq st.sim st.len) fun i n => (sp i n).1)
  refine ⟨hwipe, Bi, env1, st.sim, b, env2, a2, fun H6 ⟨f3, l3, S3⟩ => ?_⟩
  have cs3 := cs2.step hD (.of S3 f3 l3) (.of l3)
  have wn3 := wn2.step (.of S3 f3 l3)
  cases b with
  | false =>
    obtain ⟨rfl, rfl⟩ := pure_ok.mp b2
    have z1 := cs3.wipe (own := vs1) hsub hio
    have z2 := wn3.wipe vs1
    rw [hwipe] at z1 z2
    rw [List.append_nil] at hN
    exact hN _ ⟨z1, z2⟩
  | true =>
    obtain ⟨r, env3, a3, b3⟩ := bind_ok.mp b2
    obtain ⟨rfl, rfl⟩ := pure_ok.mp b3
    refine ⟨Bi, env2, S3, r, _, a3, fun y H7 p => ?_⟩
    obtain ⟨f4, l4, S4, rv⟩ := p.plain S3
    have cs4 := cs3.step hD (.of S4 f4 l4) (.of l4)
    have wn4 := wn3.step (.of S4 f4 l4)
    rw [List.length_append] at hlim
    have hl : acc.length + 1 ≤ sizeLine := by
      have h1 : acc.length + 1 ≤ LIM := hlim
      exact Nat.le_trans h1 lim_line
    obtain ⟨ws, k1, k2, k3⟩ := cs4.app hD hD1 rv hl
    have z1 := k3.wipe (own := vs1) hsub hio
    have z2 := (wn4.app hD (.lst (ws ++ [y]))).wipe vs1
    rw [hwipe] at z1 z2
    exact ⟨ws, k1, k2, hN _ ⟨z1, z2⟩⟩
theorem wn_start (S : Sim F K B env σ H) (hD : H D = none) : Wn (mask (MK B env σ) H) (fun a => B a ∨ (ownA env σ a ∧ ¬ ownA (Ev.wipe env vs) (L2.wipe σ vs) a) ∨ a = D) (Ev.wipe env vs) (L2.wipe σ vs) (upd H D (.lst [])) := fun a o q => by
  obtain ⟨h1, h2⟩ := mask_some.mp q
  refine ⟨upd_le hD a o h2, fun z => ?_⟩
  rcases z with (z | z | z) | z
  · exact h1 (.inl z)
  · exact h1 (.inr z.1)
  · rw [z, hD] at h2; cases h2
  · exact h1 (.inr (own_wipe z))
def compM (vs : List Nat) (mi : M (List T)) (g : T × Bool → M Unit) (mt : M Bool) (me : M (T × Bool)) : M (T × Bool) := do
      let xs ← mi
      let ys ← block vs (each (stepM vs g mt me) xs)
      let _ ← lift (capped ys)
      M.pure (.lst ys, true)
def comp2M (vs vs1 : List Nat) (mi mi1 : M (List T)) (g g1 : T × Bool → M Unit) (mt mt1 : M Bool) (me : M (T × Bool)) : M (T × Bool) := do
      let xs ← mi
      let ys ← block vs (each (fun x => turn vs (do
        g (x, false)
        let b ← mt
        if b then do
          let zs ← mi1
          wipeM vs1
          each (stepM vs1 g1 mt1 me) zs
        else M.pure [])) xs)
      let _ ← lift (capped ys)
      M.pure (.lst ys, true)
theorem comp_imp {mi : M (List T)} {g : T × Bool → M Unit} {mt : M Bool} {me : M (T × Bool)} {Q : VK} (h : fE F K (compM vs mi g mt me) σ H Q) : tLc (fIt F K mi) (fG F K (· ∈ vs) g) (fT F K mt) (fE F K me) vs σ H Q := by
  obtain ⟨B, env, S, r, env', h0, q⟩ := h
  obtain ⟨xs, env1, a1, b1⟩ := bind_ok.mp h0
  obtain ⟨ys, env2, a2, b2⟩ := bind_ok.mp b1
  obtain ⟨zs, env3, a3, b3⟩ := bind_ok.mp b2
  obtain ⟨c3, e3⟩ := lift_ok.mp a3
  subst e3
  obtain ⟨rfl, rfl⟩ := pure_ok.mp b3
  have hcap : ys.length ≤ LIM := by
    unfold capped at c3; split at c3
    · assumption
    · cases c3
  obtain ⟨hio, e9, a9, rfl⟩ := block_ok a2
  refine ⟨B, env, S, xs, env1, a1, fun J H1 ⟨f1, l1, S1, hlen, wk⟩ D hD => ?_⟩
  refine loop_each (Fin := Q (.ref D)) (C := fun env acc H => CS F K _ D H1 _ (vs) _ _ (L2.wipe σ (vs)) env acc H ∧ Wn (mask (MK B env1 σ) H1) _ env (L2.wipe σ (vs)) H) (acc0 := []) wk (fun env acc H cs a o q => (cs.2 a o q).1)
    (turn_body (.inr (.inr rfl)) hD (wipeS_wipeS fun i m => m) (fun i m => m) (fun i m t z => hio i m t (wipe_some z (fun q => nomatch q)).1))
    ⟨CS.start S1 hD hio, wn_start S1 hD⟩ a9 (by rw [List.nil_append]; exact hcap) fun H cs => q _ H (Pst.trans f1 l1 (CS.finish S1 hD (by have := cs.1; rw [List.nil_append] at this; exact this) hio))
theorem comp2_imp {mi mi1 : M (List T)} {g g1 : T × Bool → M Unit} {mt mt1 : M Bool} {me : M (T × Bool)} {Q : VK} (hv : ∀ i ∈ vs1, i ∈ vs) (h : fE F K (comp2M vs vs1 mi mi1 g g1 mt mt1 me) σ H Q) :
    tLc2 (fIt F K mi) (fG F K (· ∈ vs) g) (fT F K mt) (fIt F K mi1) (fG F K (· ∈ vs1) g1) (fT F K mt1) (fE F K me) vs vs1 σ H Q := by
  obtain ⟨B, env, S, r, env', h0, q⟩ := h
  obtain ⟨xs, env1, a1, b1⟩ := bind_ok.mp h0
  obtain ⟨ys, env2, a2, b2⟩ := bind_ok.mp b1
  obtain ⟨zs, env3, a3, b3⟩ := bind_ok.mp b2
  obtain ⟨c3, e3⟩ := lift_ok.mp a3
  subst e3
  obtain ⟨rfl, rfl⟩ := pure_ok.mp b3
  have hcap : ys.length ≤ LIM := by
    unfold capped at c3; split at c3
    · assumption
    · cases c3
  obtain ⟨hio, e9, a9, rfl⟩ := block_ok a2
  refine ⟨B, env, S, xs, env1, a1, fun J H1 ⟨f1, l1, S1, hlen, wk⟩ D hD => ?_⟩
  have hio' : ∀ i ∈ vs, ∀ t, (Ev.wipe env1 (vs))[i]? ≠ some (.io t) := fun i m t z => hio i m t (wipe_some z (fun q => nomatch q)).1
  refine loop_each (Fin := Q (.ref D)) (C := fun env acc H => CS F K _ D H1 _ (vs) _ _ (L2.wipe σ (vs)) env acc H ∧ Wn (mask (MK B env1 σ) H1) _ env (L2.wipe σ (vs)) H) (acc0 := []) wk (fun env acc H cs a o q => (cs.2 a o q).1)
    ?_ ⟨CS.start S1 hD hio, wn_start S1 hD⟩ a9 (by rw [List.nil_append]; exact hcap) fun H cs => q _ H (Pst.trans f1 l1 (CS.finish S1 hD (by have := cs.1; rw [List.nil_append] at this; exact this) hio))
  -- an outer turn
  intro x a env env' acc H x' H' ⟨cs, wn⟩ hst hlim hgr hx Nx hNx
  obtain ⟨e8, a8, rfl⟩ := turn_ok.mp hst
  obtain ⟨u, env4, a4, b4⟩ := bind_ok.mp a8
  obtain ⟨b, env5, a5, b5⟩ := bind_ok.mp b4
  have cs1 := cs.grow hgr
  have wn1 := wn.grow hgr
  refine ⟨_, env, env, H', (x, false), cs1.sim, .mk .refl .refl cs1.sim (wn.val cs.sim hgr hx), env4, a4, fun σ2 H2 st sp => ?_⟩
  have cs2 := cs1.step (.inr (.inr rfl)) st sp
  have wn2 := wn1.step st
  have hwipe : L2.wipe σ2 (vs) = L2.wipe σ (vs) := by
    refine (wipeS_stp (cs1.sim.lenEq st.sim st.len) fun i n => (sp i n).1).trans ?_
    exact wipeS_wipeS fun i m => m
  refine ⟨hwipe, _, env4, st.sim, b, env5, a5, fun H3 ⟨f3, l3, S3⟩ => ?_⟩
  have cs3 := cs2.step (.inr (.inr rfl)) (.of S3 f3 l3) (.of l3)
  have wn3 := wn2.step (.of S3 f3 l3)
  cases b with
  | false =>
    obtain ⟨rfl, rfl⟩ := pure_ok.mp b5
    have z1 := cs3.wipe (own := vs) (fun i m => m) hio'
    have z2 := wn3.wipe (vs)
    rw [hwipe] at z1 z2
    rw [List.append_nil] at hNx
    exact hNx _ ⟨z1, z2⟩
  | true =>
    obtain ⟨zs2, env6, a6, b6⟩ := bind_ok.mp b5
    obtain ⟨u7, env7, a7, b7⟩ := bind_ok.mp b6
    cases a7
    refine ⟨_, env5, S3, zs2, env6, a6, fun J1 H4 ⟨f4, l4, S4, hlen4, wk4⟩ => ?_⟩
    have cs4 := cs3.step (.inr (.inr rfl)) (.of S4 f4 l4) (.of l4)
    have wn4 := wn3.step (.of S4 f4 l4)
    have cs5 := cs4.wipe (own := vs1) hv (fun i m => hio' i (hv i m))
    have wn5 := wn4.wipe vs1
    have hn : ∀ t : List T, (∀ i ∈ vs1, ∀ t, (Ev.wipe env1 (vs))[i]? ≠ some (.io t)) := fun _ i m => hio' i (hv i m)
    refine loop_each (Fin := Nx) (C := fun env acc H => CS F K _ D H1 _ (vs) _ _ (L2.wipe σ2 vs1) env acc H ∧ Wn _ (fun a => B a ∨ (ownA env1 σ a ∧ ¬ ownA (Ev.wipe env1 (vs)) (L2.wipe σ (vs)) a) ∨ a = D) env (L2.wipe σ2 vs1) H) (acc0 := acc) wk4 (fun env acc H cs a o q => (cs.2 a o q).1)
      (turn_body (.inr (.inr rfl)) hD (wipeS_wipeS fun i m => m) hv (hn []))
      ⟨cs5, fun a o q => ?_⟩ b7 hlim fun H9 ⟨cs9, wn9⟩ => ?_
    · obtain ⟨h1, h2⟩ := mask_some.mp q
      exact ⟨h2, fun z => h1 (z.elim .inl fun z => .inr (own_wipe z))⟩
    · have wn8 : Wn (mask (MK B env1 σ) H1) _ e8 (L2.wipe σ2 vs1) H9 := fun a o q => wn9 a o (by
        obtain ⟨h1, h2⟩ := wn4 a o q
        exact mask_some.mpr ⟨h2, h1⟩)
      have z1 := cs9.wipe (own := vs) (fun i m => m) hio'
      have z2 := wn8.wipe (vs)
      rw [wipeS_wipeS hv, hwipe] at z1 z2
      exact hNx _ ⟨z1, z2⟩
theorem ee_comp {elt iter : Expr} {ifs : List Expr} {scope : Scope} {ow : List (Str × Nat)} {mi : M (List T)} {g : T × Bool → M Unit} {mt : M Bool} {me : M (T × Bool)} (hc : X.calm = true) (hN : X.N.Nodup) (hi : PI X tg iter (fIt F X.K mi)) (ok : BlkOk X.N X.env.scope scope ow)
    (hg : ∀ (s : Shared) (H : Hp) (C : Addr) (cl : List (Str × Addr)) (fp : List Addr), PG (X.blk s H scope (compEnvC scope cl C X.env) fp) tg (fG F X.K (· ∈ ow.map (·.2)) g))
    (ht : ∀ (s : Shared) (H : Hp) (C : Addr) (cl : List (Str × Addr)) (fp : List Addr), PTs (X.blk s H scope (compEnvC scope cl C X.env) fp) ifs (fT F X.K mt))
    (he : ∀ (s : Shared) (H : Hp) (C : Addr) (cl : List (Str × Addr)) (fp : List Addr), PE (X.blk s H scope (compEnvC scope cl C X.env) fp) elt (fE F X.K me)) (hs : ∀ x, foldedSetIterable iter X.env x = pure x) :
    PE X (.ListComp elt [⟨tg, iter, ifs, 0⟩] scope pos) (fE F X.K (compM (ow.map (·.2)) mi g mt me)) :=
  (pe_lc hc hN hi ok hg ht he hs).imp fun σ H Q h => comp_imp h
theorem ee_comp2 {elt iter tg1 iter1 : Expr} {ifs ifs1 : List Expr} {scope : Scope} {ow : List (Str × Nat)} {mi mi1 : M (List T)} {g g1 : T × Bool → M Unit} {mt mt1 : M Bool} {me : M (T × Bool)} (hc : X.calm = true) (hN : X.N.Nodup) (hi : PI X tg iter (fIt F X.K mi)) (ok : BlkOk X.N X.env.scope scope ow) (hv : ∀ i ∈ vs1, i ∈ ow.map (·.2))
    (hg : ∀ (s : Shared) (H : Hp) (C : Addr) (cl : List (Str × Addr)) (fp : List Addr), PG (X.blk s H scope (compEnvC scope cl C X.env) fp) tg (fG F X.K (· ∈ ow.map (·.2)) g))
    (ht : ∀ (s : Shared) (H : Hp) (C : Addr) (cl : List (Str × Addr)) (fp : List Addr), PTs (X.blk s H scope (compEnvC scope cl C X.env) fp) ifs (fT F X.K mt))
    (hi1 : ∀ (s : Shared) (H : Hp) (C : Addr) (cl : List (Str × Addr)) (fp : List Addr), PI (X.blk s H scope (compEnvC scope cl C X.env) fp) tg1 iter1 (fIt F X.K mi1))
    (hg1 : ∀ (s : Shared) (H : Hp) (C : Addr) (cl : List (Str × Addr)) (fp : List Addr), PG (X.blk s H scope (compEnvC scope cl C X.env) fp) tg1 (fG F X.K (· ∈ vs1) g1))
    (ht1 : ∀ (s : Shared) (H : Hp) (C : Addr) (cl : List (Str × Addr)) (fp : List Addr), PTs (X.blk s H scope (compEnvC scope cl C X.env) fp) ifs1 (fT F X.K mt1))
    (he : ∀ (s : Shared) (H : Hp) (C : Addr) (cl : List (Str × Addr)) (fp : List Addr), PE (X.blk s H scope (compEnvC scope cl C X.env) fp) elt (fE F X.K me)) (hs : ∀ x, foldedSetIterable iter X.env x = pure x) (hs1 : ∀ env x, foldedSetIterable iter1 env x = pure x) :
    PE X (.ListComp elt [⟨tg, iter, ifs, 0⟩, ⟨tg1, iter1, ifs1, 0⟩] scope pos) (fE F X.K (comp2M (ow.map (·.2)) vs1 mi mi1 g g1 mt mt1 me)) :=
  (pe_lc2 hc hN hi ok hv hg ht hi1 hg1 ht1 he hs hs1).imp fun σ H Q h => comp2_imp hv h
end
end Ev

set_option Elab.async false
set_option linter.all false
set_option maxRecDepth 100000
set_option autoImplicit false
namespace Ev
open PySem PySem.Spec PyProof.Rows L2
open Classical
section
variable {F : Nat → Addr} {K : PySem.W.Frag} {X : Cx} {B B' B1 B2 : Addr → Prop} {env env' env0 env1 env2 : Env} {σ σ' σ1 σ2 : L2.St} {H H' H0 H1 H2 H3 Hm : Hp} {v w : V} {x y o : Opd} {t : T} {e a b c : Expr} {pos : Pos} {rest : List Expr} {i : Nat}
/-! ### isinstance -/
def tyNm : Ty → String
  | .int => "int" | .bool => "bool" | .str => "str" | .tuple => "tuple" | .list => "list" | .dict => "dict"
def vNm : T → String
  | .non => "NoneType" | .bl _ => "bool" | .int _ => "int" | .str _ => "str" | .tup _ => "tuple" | _ => "list"
theorem kitT : ∀ y : Ty, kitB "NoneType" (tyNm y) = some false ∧ kitB "bool" (tyNm y) = some (isTy (.bl true) y) ∧ kitB "int" (tyNm y) = some (isTy (.int 0) y) ∧ kitB "str" (tyNm y) = some (isTy (.str default) y) ∧ kitB "tuple" (tyNm y) = some (isTy (.tup []) y) ∧ kitB "list" (tyNm y) = some (isTy (.lst []) y) := by
  intro y
  cases y <;> decide +kernel
def isiOk : T → Prop
  | .fn _ => False
  | .dic _ => False
  | .scr _ => False
  | _ => True
theorem isi_ok {ts : List Ty} {t : T} {r : T × Bool} (h : isiF ts t = some r) : isiOk t ∧ r = (.bl (ts.any fun y => isTy t y), false) := by
  cases t <;> first | (cases h; exact ⟨trivial, rfl⟩) | cases h
theorem kit1 {t : T} (h : isiOk t) (y : Ty) : kitB (vNm t) (tyNm y) = some (isTy t y) := by
  obtain ⟨h1, h2, h3, h4, h5, h6⟩ := kitT y
  cases t <;> first | exact h.elim | skip
  · rw [show isTy T.non y = false from by cases y <;> rfl]; exact h1
  · rename_i b; rw [show isTy (T.bl b) y = isTy (T.bl true) y from by cases y <;> rfl]; exact h2
  · rename_i b; rw [show isTy (T.int b) y = isTy (T.int 0) y from by cases y <;> rfl]; exact h3
  · rename_i b; rw [show isTy (T.str b) y = isTy (T.str default) y from by cases y <;> rfl]; exact h4
  · rename_i b; rw [show isTy (T.tup b) y = isTy (T.tup []) y from by cases y <;> rfl]; exact h5
  · rename_i b; rw [show isTy (T.lst b) y = isTy (T.lst []) y from by cases y <;> rfl]; exact h6
theorem ty_vr {Hm H : Hp} (e : Hle Hm H) (ho : isiOk t) (h : Vr F K Hm H t v) : TyX K H v (.type (vNm t)) := by
  cases t <;> first | exact ho.elim | skip
  · cases (show v = V.non by simpa [Vr, Rp] using h); exact .base .non
  · rename_i b; cases (show v = V.bl b by simpa [Vr, Rp] using h); exact .base (.bl b)
  · rename_i b; cases (show v = V.int b by simpa [Vr, Rp] using h); exact .base (.int b)
  · rename_i b; cases (show v = V.str b by simpa [Vr, Rp] using h); exact .base (.str b)
  · obtain ⟨a, vs, rfl, h1, _⟩ : ∃ a vs, v = V.ref a ∧ Hm a = some (.tup vs) ∧ True := by
      unfold Vr at h; simp only [Rp] at h
      obtain ⟨a, vs, e1, e2, _⟩ := h
      exact ⟨a, vs, e1, e2, trivial⟩
    exact .base (.tup (e _ _ h1))
  · unfold Vr at h
    obtain ⟨a, vs, rfl, h1, _⟩ := h
    exact .base (.lst h1)
theorem TyX.le {x : V} {t : Value} (g : Hle H H') (h : TyX K H x t) : TyX K H' x t := by
  cases h with
  | base h =>
    refine .base ?_
    cases h with
    | non => exact .non
    | bl => exact .bl _
    | int => exact .int _
    | str => exact .str _
    | flt => exact .flt _
    | lst e => exact .lst (g _ _ e)
    | frz e => exact .frz (g _ _ e)
    | tup e => exact .tup (g _ _ e)
    | dK e => exact .dK (g _ _ e)
    | dT e => exact .dT (g _ _ e)
    | ins e cl ha hn htk hm => exact .ins (g _ _ e) cl ha hn htk hm
  | byt => exact .byt _
  | set e => exact .set (g _ _ e)
  | kList e c => exact .kList e c
  | kTuple e c => exact .kTuple e c
  | kDict e c => exact .kDict e c
  | fTuple e => exact .fTuple (g _ _ e)
  | fDict e => exact .fDict (g _ _ e)
theorem boot_ty (y : Ty) : bootBuiltins (PySem.Str.ofString (tyNm y)) = some (.type (tyNm y)) := by cases y <;> decide +kernel
theorem ty_names (y : Ty) : (PySem.Str.ofString (tyNm y)) ≠ "__name__" ∧ ((PySem.Str.ofString (tyNm y)) == ("__debug__" : Str)) = false := by cases y <;> decide +kernel
theorem pe_tyname {y : Ty} {p : Pos} (hg : Gl X (PySem.Str.ofString (tyNm y))) (hm : X.mg (PySem.Str.ofString (tyNm y)) = none) : PE X (.Name (PySem.Str.ofString (tyNm y)) p) (tC (.ty (tyNm y))) :=
  pe_bltn hg hm (boot_ty y) rfl (ty_names y).1 (ty_names y).2
theorem ee_isi {y : Ty} {ma : M Opd} {p p2 : Pos} (hg : Gl X "isinstance") (hm : X.mg "isinstance" = none) (hg2 : Gl X (PySem.Str.ofString (tyNm y))) (hm2 : X.mg (PySem.Str.ofString (tyNm y)) = none) (hs : ∀ x p, a ≠ .Starred x p) (ha : PE X a (fO F X.K ma)) :
    PE X (.Call (.Name "isinstance" p) [a, .Name (PySem.Str.ofString (tyNm y)) p2] [] pos) (fE F X.K (do let x ← ma; let x ← res x; lift (isiF [y] x))) := by
  refine (pe_callB call_isi hg hm boot_isinstance (pa_cons ha (pa_cons (pe_tyname hg2 hm2) pa_nil (by rfl)) (starEach_cons hs)) (by decide) (by decide) (starEach_cons hs) (by rfl)).imp fun σ H Q ⟨B, env, S, r, env', h0, q⟩ => ?_
  obtain ⟨x, env1, a1, b1⟩ := bind_ok.mp h0
  obtain ⟨t, env2, a2, b2⟩ := bind_ok.mp b1
  obtain ⟨c3, rfl⟩ := lift_ok.mp b2
  obtain ⟨ho, rfl⟩ := isi_ok c3
  refine one S a1 fun v H1 B1 f1 l1 e1 S1 r1 => ?_
  obtain ⟨rfl, vx⟩ := r1.vr S1 a2
  refine ⟨v, .ty (tyNm y), .type (vNm t), .type (tyNm y), isTy t y, rfl, .ty _, ty_vr mask_le ho vx, kit_ty (kit1 ho y), ?_⟩
  have : (List.any [y] fun y => isTy t y) = isTy t y := by simp
  rw [this] at q
  exact q _ H1 (.mk f1 l1 (S1.less e1.1) (by simp [Rp]))
theorem kitAny_all {t : T} (ho : isiOk t) : ∀ ys : List Ty, PySem.W.kitAny K (.type (vNm t)) (ys.map fun y => Value.type (tyNm y)) = some (ys.any fun y => isTy t y)
  | [] => rfl
  | y :: ys => by
    rw [List.map_cons, List.any_cons]
    refine kitAny_cons (kit_ty (kit1 ho y)) (fun h => ?_) fun h => by rw [h]; rfl
    rw [h, Bool.false_or]
    exact kitAny_all ho ys
theorem pa_tys : ∀ {ys : List Ty} {es : List Expr}, Paired (fun e y => ∃ p, e = Expr.Name (PySem.Str.ofString (tyNm y)) p) es ys → (∀ y ∈ ys, Gl X (PySem.Str.ofString (tyNm y)) ∧ X.mg (PySem.Str.ofString (tyNm y)) = none) → PA X es (fun _ H Q => Q (ys.map fun y => V.ty (tyNm y)) H)
  | [], [], .nil, _ => pa_nil
  | y :: ys, e :: es, .cons ⟨p, h⟩ h2, hg => by
    subst h
    exact pa_cons (pe_tyname (hg y List.mem_cons_self).1 (hg y List.mem_cons_self).2) (pa_tys h2 fun z m => hg z (List.mem_cons_of_mem _ m)) (by rfl)
theorem paired_ty : ∀ ys : List Ty, Paired ClsV (ys.map fun y => V.ty (tyNm y)) (ys.map fun y => Value.type (tyNm y))
  | [] => .nil
  | y :: ys => .cons (.ty _) (paired_ty ys)
theorem ee_isiT {ys : List Ty} {es : List Expr} {kk : Nat} {ma : M Opd} {p p2 : Pos} (hl : ys.length ≤ 9) (hg : Gl X "isinstance") (hm : X.mg "isinstance" = none) (hp : Paired (fun e y => ∃ p, e = Expr.Name (PySem.Str.ofString (tyNm y)) p) es ys) (hg2 : ∀ y ∈ ys, Gl X (PySem.Str.ofString (tyNm y)) ∧ X.mg (PySem.Str.ofString (tyNm y)) = none) (hs : ∀ x p, a ≠ .Starred x p) (ha : PE X a (fO F X.K ma)) :
    PE X (.Call (.Name "isinstance" p) [a, .Tuple es kk p2] [] pos) (fE F X.K (do let x ← ma; let x ← res x; lift (isiF ys x))) := by
  refine (pe_callB call_isiT hg hm boot_isinstance (pa_cons ha (pa_cons (pe_tup (pa_tys hp hg2)) pa_nil (by rfl)) (starEach_cons hs)) (by decide) (by decide) (starEach_cons hs) (by rfl)).imp fun σ H Q ⟨B, env, S, r, env', h0, q⟩ => ?_
  obtain ⟨x, env1, a1, b1⟩ := bind_ok.mp h0
  obtain ⟨t, env2, a2, b2⟩ := bind_ok.mp b1
  obtain ⟨c3, rfl⟩ := lift_ok.mp b2
  obtain ⟨ho, rfl⟩ := isi_ok c3
  refine one S a1 fun v H1 B1 f1 l1 e1 S1 r1 => ?_
  obtain ⟨rfl, vx⟩ := r1.vr S1 a2
  refine ⟨?_, fun p' hp' => ?_⟩
  · rw [List.length_map]; exact Nat.le_trans hl (by decide)
  · have n : NewR F X.K (mask (MK B1 env2 σ) H1) H1 (T.bl (ys.any fun y => isTy t y), false) (V.bl (ys.any fun y => isTy t y)) (upd H1 p' (.tup (ys.map fun y => V.ty (tyNm y)))) :=
      ⟨upd_le hp', by rw [if_neg (by simp)]; exact ⟨mask (MK B1 env2 σ) H1, mask_le.trans (upd_le hp'), fun a o q => .inl q, by simp [Rp]⟩⟩
    exact ⟨v, p', _, .type (vNm t), _, _, rfl, upd_same, paired_ty ys, TyX.le (upd_le hp') (ty_vr mask_le ho vx), kitAny_all ho ys, q _ _ (n.po S S1 e1 f1 l1)⟩
/-! ### tests of a comprehension -/
theorem pts0 : PTs X [] (fT F X.K (M.pure true)) := ⟨fun pins s σ H Q I ⟨B, env, S, b, env', h0, q⟩ => by
  obtain ⟨rfl, rfl⟩ := pure_ok.mp h0
  exact pts_nil.run pins s σ H Q I (q H ⟨.refl, .refl, S⟩)⟩
theorem pts1 {m : M Bool} (h : PT X e (fT F X.K m)) : PTs X [e] (fT F X.K (do let c ← m; if c then M.pure true else M.pure false)) := ⟨fun pins s σ H Q I ⟨B, env, S, b, env', h0, q⟩ => by
  refine (pts_one h).run pins s σ H Q I ?_
  obtain ⟨c, env1, a1, b1⟩ := bind_ok.mp h0
  refine ⟨B, env, S, c, env1, a1, fun H' z => ?_⟩
  cases c with
  | true =>
    obtain ⟨rfl, rfl⟩ := pure_ok.mp b1
    exact q H' z
  | false =>
    obtain ⟨rfl, rfl⟩ := pure_ok.mp b1
    exact q H' z⟩
end
end Ev

set_option Elab.async false
set_option linter.all false
set_option maxRecDepth 100000
set_option autoImplicit false
namespace Ev
open PySem PySem.Spec PyProof.Rows L2
open Classical
/-! ### what a def promises -/
/-- arguments, laid: the one that may be changed is the def's own for the while -/
def ArgR (F : Nat → Addr) (K : PySem.W.Frag) (Hm H : Hp) (io : Option Nat) (ts : List T) (vs : List V) : Prop :=
  ts.length = vs.length ∧ ∀ (i : Nat) (t : T) (v : V), ts[i]? = some t → vs[i]? = some v → if io = some i then ∃ d, v = .ref d ∧ Hm d = none ∧ Own F K Hm H d t else Rp F K Hm t v
/-- behind a call -/
def OutR (F : Nat → Addr) (K : PySem.W.Frag) (Hm H H' : Hp) (io : Option Nat) (vs : List V) (out : Option T) (r : T × Bool) (v : V) : Prop :=
  (∀ a o, H a = some o → (∀ j, io = some j → vs[j]? ≠ some (.ref a)) → H' a = some o) ∧ (∀ a, H' a = none → H a = none) ∧
  ∃ Hr, Hle Hr H' ∧ (∀ a o, Hr a = some o → Hm a = some o ∨ H a = none) ∧
    (∀ j, io = some j → ∃ d t, vs[j]? = some (.ref d) ∧ out = some t ∧ Own F K Hr H' d t) ∧ (io = none → out = none) ∧
    if (r.2 && isRef r.1) = true then ∃ p, v = .ref p ∧ H p = none ∧ Hr p = none ∧ Own F K Hr H' p r.1 else Rp F K Hr r.1 v
def spF (F : Nat → Addr) (K : PySem.W.Frag) (P : Prog) (wh n f : Nat) : Sp := fun vs H Q _ => ∃ Hm ts r fr out, Hle Hm H ∧ ArgR F K Hm H (ioOf P f) ts vs ∧ run P wh n f ts = .ok r fr out ∧
  ∀ v H', OutR F K Hm H H' (ioOf P f) vs out (r, fr) v → Q v H'
section
variable {F : Nat → Addr} {K : PySem.W.Frag} {X : Cx} {B B' B1 B2 : Addr → Prop} {env env' env0 env1 env2 : Env} {σ σ' σ1 σ2 : L2.St} {H H' H0 H1 H2 H3 Hm : Hp} {v w : V} {x y o : Opd} {t : T} {e a b c : Expr} {pos : Pos} {rest : List Expr} {i : Nat}
variable {P : Addr → Prop}
theorem mask_addP (hp : ∀ a, P a → H a = none) (e : Hle H H') : Hle (mask (MK B env σ) H) (mask (MK (fun a => B a ∨ P a) env σ) H') := fun a o q => by
  obtain ⟨h1, h2⟩ := mask_some.mp q
  refine mask_some.mpr ⟨fun z => ?_, e a o h2⟩
  rcases z with (z | z) | z
  · exact h1 (.inl z)
  · rw [hp a z] at h2; cases h2
  · exact h1 (.inr z)
theorem Sim.addP (S : Sim F K B env σ H) (e : Hle H H') (hp : ∀ a, P a → H a = none) (hp' : ∀ a, P a → H' a ≠ none) : Sim F K (fun a => B a ∨ P a) env σ H' := by
  have m : Hle (mask (MK B env σ) H) _ := mask_addP (B := B) (env := env) (σ := σ) hp e
  refine ⟨S.len, fun i t q => ?_, fun i s q z => ?_, S.ds, fun a q => ?_⟩
  · obtain ⟨v, h1, h2⟩ := S.sh i t q
    exact ⟨v, h1, h2.le m⟩
  · obtain ⟨a, h1, h2, h3⟩ := S.ow i s q z
    have ha : H a = H' a := by
      cases q : H a with
      | none => exact absurd q h2.tracked
      | some o => exact (e a o q).symm
    refine ⟨a, h1, h2.le m ha, fun z => z.elim h3 fun z => ?_⟩
    exact h2.tracked (hp a z)
  · rcases q with q | q
    · exact (S.grow e).bt a q
    · exact hp' a q
/-- one's own list, changed by someone else -/
theorem Sim.putF {i : Nat} {d : Addr} {t1 : T} {u : Unit} {Hr : Hp} (S : Sim F K B env σ H) (h : Ev.chg i t1 env = .ok u env') (hv : σ[i]? = some (some (.ref d)))
    (keep : ∀ a o, H a = some o → a ≠ d → H' a = some o) (lost : ∀ a, H' a = none → H a = none) (hr : Hle Hr H') (hm : ∀ a o, Hr a = some o → mask (MK B env σ) H a = some o ∨ H a = none) (ho : Own F K Hr H' d t1)
    (hp : ∀ a, P a → H a = none ∧ H' a ≠ none ∧ Hr a = none) :
    Sim F K (fun a => B a ∨ P a) env' σ H' ∧ Frm env σ H H' ∧ Le env env' := by
  obtain ⟨s, s', h1, h2, e3, h4⟩ := chg_ok h
  obtain ⟨dd, k1, k2, k3⟩ := S.ow i s h1 h2
  rw [hv] at k1; cases k1
  have hd : ownA env σ d := ⟨i, by rw [h1]; exact h2, hv⟩
  obtain ⟨vs0, q0⟩ := S.own_lst hd
  cases t1 with
  | lst ts1 =>
    obtain ⟨vs1, o1, o2, o3⟩ := ho
    -- the heap with the old list
    have g : Hle H (upd H' d (.lst vs0)) := fun a o q => by
      by_cases e : a = d
      · subst e; rw [q0] at q; cases q; exact upd_same
      · rw [upd_ne e]; exact keep a o q e
    have S1 := S.addP (P := P) g (fun a z => (hp a z).1) (fun a z => by
      by_cases e : a = d
      · subst e; rw [upd_same]; exact fun z => nomatch z
      · rw [upd_ne e]; exact (hp a z).2.1)
    have e9 : upd (upd H' d (.lst vs0)) d (.lst vs1) = H' := by
      funext a
      by_cases e : a = d
      · subst e; rw [upd_same, o1]
      · rw [upd_ne e, upd_ne e]
    have hr1 : RpL F K (mask (MK (fun a => B a ∨ P a) env σ) (upd H' d (.lst vs0))) ts1 vs1 := o3.le fun a o q => by
      have hP : ¬ P a := fun z => by rw [(hp a z).2.2] at q; cases q
      rcases hm a o q with z | z
      · obtain ⟨z1, z2⟩ := mask_some.mp z
        exact mask_some.mpr ⟨fun z => z.elim (fun z => z.elim (fun z => z1 (.inl z)) hP) fun z => z1 (.inr z), g a o z2⟩
      · have hne : a ≠ d := fun e => by rw [e, q0] at z; cases z
        refine mask_some.mpr ⟨fun z3 => ?_, ?_⟩
        · rcases z3 with (z3 | z3) | z3
          · exact S.bt a z3 z
          · exact hP z3
          · exact S.own_some z3 z
        · rw [upd_ne hne]; exact hr a o q
    obtain ⟨p1, p2, p3, p4⟩ := S1.put h hv hr1 o2
    rw [e9] at p1 p2 p4
    refine ⟨p1, ⟨fun a o q n => ?_, lost⟩, p3⟩
    exact keep a o q fun e => n (by rw [e]; exact hd)
  | _ => exact ho.elim
theorem OpdRs.at {Hx Hy : Hp} : ∀ {os : List Opd} {vs : List V} {j : Nat} {o : Opd}, OpdRs F K Hx Hy σ B os vs → os[j]? = some o → ∃ v, vs[j]? = some v ∧ OpdR F K Hx Hy σ B o v
  | [], _, _, _, _, z => by simp at z
  | o :: os, vs, 0, o', h, z => by
    obtain ⟨v, r, rfl, h1, h2⟩ := h
    simp at z; subst z
    exact ⟨v, rfl, h1⟩
  | o :: os, vs, j + 1, o', h, z => by
    obtain ⟨v, r, rfl, h1, h2⟩ := h
    obtain ⟨w, k1, k2⟩ := OpdRs.at (os := os) (vs := r) h2 (show os[j]? = some o' by simpa using z)
    exact ⟨w, by simpa using k1, k2⟩
theorem OpdRs.len {Hx Hy : Hp} : ∀ {os : List Opd} {vs : List V}, OpdRs F K Hx Hy σ B os vs → os.length = vs.length
  | [], _, h => by cases (show _ = _ from h); rfl
  | o :: os, vs, h => by
    obtain ⟨v, r, rfl, h1, h2⟩ := h
    simp [OpdRs.len h2]
theorem resAll_get : ∀ {os : List Opd} {ts : List T} {env env' : Env}, resAll os env = .ok ts env' → env' = env ∧ ts.length = os.length ∧ ∀ (j : Nat) (o : Opd), os[j]? = some o → ∃ t, ts[j]? = some t ∧ res o env = .ok t env
  | [], ts, _, _, h => by
    obtain ⟨rfl, rfl⟩ := pure_ok.mp h
    exact ⟨rfl, rfl, fun j o z => by simp at z⟩
  | o :: os, ts, env, env', h => by
    obtain ⟨t, env1, a1, b1⟩ := bind_ok.mp h
    obtain ⟨ts', env2, a2, b2⟩ := bind_ok.mp b1
    obtain ⟨rfl, rfl⟩ := pure_ok.mp b2
    have e1 : env1 = env := by
      cases o with
      | val u => exact (pure_ok.mp a1).2.symm
      | own u => exact (pure_ok.mp a1).2.symm
      | slot i => exact (peek_ok.mp a1).1.symm
    subst e1
    obtain ⟨e2, l2, g2⟩ := resAll_get a2
    subst e2
    refine ⟨rfl, by simp [l2], fun j o' z => ?_⟩
    cases j with
    | zero => simp at z; subst z; exact ⟨t, rfl, a1⟩
    | succ j => 
      obtain ⟨t', k1, k2⟩ := g2 j o' (by simpa using z)
      exact ⟨t', by simpa using k1, k2⟩
/-- an answer that is laid by someone else -/
theorem ans_po {r : T × Bool} {Hr : Hp} (S0 : Sim F K B env σ H) (e1 : Ext B B1 H) (f1 : Frm env σ H H1) (l1 : Le env env1) (S1 : Sim F K B1 env1 σ H1)
    (step : ∀ P : Addr → Prop, (∀ a, P a → H1 a = none ∧ H2 a ≠ none ∧ Hr a = none) → Sim F K (fun a => B1 a ∨ P a) env2 σ H2 ∧ Frm env σ H H2 ∧ Le env1 env2)
    (hr : Hle Hr H2) (hm : ∀ a o, Hr a = some o → mask (MK B1 env1 σ) H1 a = some o ∨ H1 a = none)
    (h : if (r.2 && isRef r.1) = true then ∃ p, v = .ref p ∧ H1 p = none ∧ Hr p = none ∧ Own F K Hr H2 p r.1 else Rp F K Hr r.1 v) : Pst F K B env env2 σ H (opd r) v H2 := by
  have key : ∀ P : Addr → Prop, (∀ a, P a → H1 a = none ∧ H2 a ≠ none ∧ Hr a = none) → Le env1 env2 → Hle Hr (mask (MK (fun a => B a ∨ P a) env2 σ) H2) := fun P hp l2 a o q => by
    refine mask_some.mpr ⟨fun z => ?_, hr a o q⟩
    rcases z with (z | z) | z
    · rcases hm a o q with z2 | z2
      · exact (mask_some.mp z2).1 (.inl (e1.1 a z))
      · exact S1.bt a (e1.1 a z) z2
    · rw [(hp a z).2.2] at q; cases q
    · rcases hm a o q with z2 | z2
      · exact (mask_some.mp z2).1 (.inr (l2.own z))
      · exact S1.own_some (l2.own z) z2
  unfold opd
  by_cases c : (r.2 && isRef r.1) = true
  · rw [if_pos c] at h ⊢
    obtain ⟨p, rfl, hp, hp2, ho⟩ := h
    have hP : ∀ a, a = p → H1 a = none ∧ H2 a ≠ none ∧ Hr a = none := fun a z => by subst z; exact ⟨hp, ho.tracked, hp2⟩
    obtain ⟨S2, f2, l2⟩ := step (fun a => a = p) hP
    refine ⟨f2, l1.trans l2, fun a => B a ∨ a = p, ⟨fun a z => .inl z, fun a z => z.elim .inl fun z => .inr (by rw [z]; exact f1.lost p hp)⟩, S2.less fun a z => z.elim (fun z => .inl (e1.1 a z)) .inr, ⟨p, rfl, .inr rfl, ho.le (key _ hP l2) rfl⟩, fun t q => ⟨p, rfl, f1.lost p hp⟩⟩
  · rw [if_neg c] at h ⊢
    have hP : ∀ a, (fun _ : Addr => False) a → H1 a = none ∧ H2 a ≠ none ∧ Hr a = none := fun a z => z.elim
    obtain ⟨S2, f2, l2⟩ := step (fun _ => False) hP
    refine ⟨f2, l1.trans l2, B, .refl, S2.less fun a z => .inl (e1.1 a z), h.le ((key _ hP l2).trans ?_), fun t q => nomatch q⟩
    exact mask_B fun a z => .inl z
end
end Ev

set_option Elab.async false
set_option linter.all false
set_option maxRecDepth 100000
set_option autoImplicit false
namespace Ev
open PySem PySem.Spec PyProof.Rows L2
open Classical
section
variable {F : Nat → Addr} {K : PySem.W.Frag} {X : Cx} {B B' B1 B2 : Addr → Prop} {env env' env0 env1 env2 : Env} {σ σ' σ1 σ2 : L2.St} {H H' H0 H1 H2 H3 Hm : Hp} {v w : V} {x y o : Opd} {t : T} {e a b c : Expr} {pos : Pos} {rest : List Expr} {i : Nat} {C : Ctx} {P : Prog} {wh n f : Nat}
theorem getElem?_of_lt {α : Type} {l : List α} {i : Nat} (h : i < l.length) : ∃ x, l[i]? = some x := ⟨_, List.getElem?_eq_getElem h⟩
theorem call_core {os : List Opd} {vs : List V} {r : T × Bool} {Q : VK} {E : XK} (hio : C.io = ioOf P) (hcall : C.call = run P wh n) (hv : ∀ (i : Nat) (o : Opd), os[i]? = some o → C.io f ≠ some i → ∃ t, o = .val t)
    (S0 : Sim F K B env σ H) (e1 : Ext B B1 H) (f1 : Frm env σ H H1) (l1 : Le env env1) (S1 : Sim F K B1 env1 σ H1) (hos : OpdRs F K (mask (MK B1 env1 σ) H1) H1 σ B1 os vs) (hn : ∀ (j : Nat) (t : T), os[j]? = some (.own t) → ∃ a, vs[j]? = some (.ref a) ∧ H a = none)
    (h : doCall C f os env1 = .ok r env2) (q : ∀ v H', Pst F K B env env2 σ H (opd r) v H' → Q v H') : spF F K P wh n f vs H1 Q E := by
  obtain ⟨u0, e9, a0, b0⟩ := bind_ok.mp h
  obtain ⟨ts, e10, a1, b1⟩ := bind_ok.mp b0
  have h9 : e9 = env1 := by
    cases hj : C.io f with
    | none => rw [hj] at a0; exact (pure_ok.mp a0).2.symm
    | some j =>
      rw [hj] at a0
      unfold mineAt at a0
      cases hk : os[j]? with
      | none => simp only [hk] at a0; cases a0
      | some o =>
        simp only [hk] at a0
        cases o with
        | val u => cases a0
        | own u => exact (pure_ok.mp a0).2.symm
        | slot j2 =>
          obtain ⟨t, e8, a, b⟩ := bind_ok.mp a0
          rw [← (pure_ok.mp b).2, ← (mine_ok.mp a).1]
  subst h9
  obtain ⟨h10, hlen, hget⟩ := resAll_get a1
  subst h10
  rw [hcall] at b1
  cases hr : run P wh n f ts with
  | bad => rw [hr] at b1; cases b1
  | ex c a out =>
    rw [hr] at b1
    obtain ⟨u, e11, a2, b2⟩ := bind_ok.mp b1
    cases b2
  | ok r0 fr out =>
    rw [hr] at b1
    obtain ⟨u, e11, a2, b2⟩ := bind_ok.mp b1
    obtain ⟨e3, e4⟩ := pure_ok.mp b2
    subst e3; subst e4
    have hl2 := hos.len
    refine ⟨mask (MK B1 e10 σ) H1, ts, r0, fr, out, mask_le, ⟨by omega, fun i t v h1 h2 => ?_⟩, hr, fun v H' hout => ?_⟩
    · have hi : i < os.length := by rw [hl2]; exact (List.getElem?_eq_some_iff.mp h2).1
      obtain ⟨o, ho⟩ := getElem?_of_lt hi
      obtain ⟨t', k1, k2⟩ := hget i o ho
      rw [h1] at k1; cases k1
      obtain ⟨w, k3, k4⟩ := hos.at ho
      rw [h2] at k3; cases k3
      by_cases c : ioOf P f = some i
      · rw [if_pos c]
        -- the one that may be changed
        rw [hio, c] at a0
        unfold mineAt at a0
        simp only [ho] at a0
        cases o with
        | val u => cases a0
        | slot j =>
          obtain ⟨t8, e8, a, b⟩ := bind_ok.mp a0
          obtain ⟨e7, s, q1, q2, q3⟩ := mine_ok.mp a
          obtain ⟨_, s', q4, q5, q6⟩ := peek_ok.mp k2
          rw [q1] at q4; cases q4
          obtain ⟨d, z1, z2, z3⟩ := S1.ow j s q1 q2
          rw [q6] at z2
          have : σ[j]? = some (some v) := k4
          rw [z1] at this; cases this
          refine ⟨d, rfl, ?_, z2⟩
          unfold mask
          rw [if_pos (.inr ⟨j, by rw [q1]; exact q2, z1⟩)]
        | own u =>
          obtain ⟨rfl, _⟩ := pure_ok.mp k2
          obtain ⟨d, z1, z2, z3⟩ := k4
          refine ⟨d, z1, ?_, z3⟩
          unfold mask
          rw [if_pos (.inl z2)]
      · rw [if_neg c]
        obtain ⟨u, rfl⟩ := hv i o ho (by rw [hio]; exact c)
        obtain ⟨rfl, _⟩ := pure_ok.mp k2
        exact k4
    · obtain ⟨o1, o2, Hr, o3, o4, o5, o6, o7⟩ := hout
      refine q v H' (ans_po (Hr := Hr) S0 e1 f1 l1 S1 (fun Pp hp => ?_) o3 o4 o7)
      cases hj : ioOf P f with
      | none =>
        rw [hio, hj, o6 hj] at a2
        obtain ⟨_, rfl⟩ := pure_ok.mp a2
        have g : Hle H1 H' := fun a o z => o1 a o z fun j z2 => by rw [hj] at z2; cases z2
        exact ⟨S1.addP g (fun a z => (hp a z).1) (fun a z => (hp a z).2.1), f1.trans l1 g.frm, .refl⟩
      | some j =>
        obtain ⟨d, t1, p1, p2, p3⟩ := o5 j hj
        rw [hio, hj, p2] at a2
        have hjl : j < os.length := by rw [hl2]; exact (List.getElem?_eq_some_iff.mp p1).1
        obtain ⟨o, ho⟩ := getElem?_of_lt hjl
        unfold putBack at a2
        simp only [ho] at a2
        obtain ⟨w, k3, k4⟩ := hos.at ho
        rw [p1] at k3; cases k3
        have keep : ∀ a o, H1 a = some o → a ≠ d → H' a = some o := fun a o z ne => o1 a o z fun j' z2 z3 => by
          rw [hj] at z2; cases z2
          rw [p1] at z3; cases z3
          exact ne rfl
        cases o with
        | val u => cases a2
        | slot i =>
          obtain ⟨y1, y2, y3⟩ := S1.putF a2 k4 keep o2 o3 o4 p3 hp
          exact ⟨y1, f1.trans l1 y2, y3⟩
        | own u =>
          obtain ⟨_, rfl⟩ := pure_ok.mp a2
          obtain ⟨d', z1, z2, z3⟩ := k4
          cases z1
          -- a new list of no name: its content is no one's
          have hnot : ¬ ownA e10 σ d := fun z => own_notB S1 z z2
          obtain ⟨vs0, q0, _⟩ : ∃ vs0, H1 d = some (.lst vs0) ∧ True := by
            cases u with
            | lst us => obtain ⟨vs0, q, _⟩ := z3; exact ⟨vs0, q, trivial⟩
            | _ => exact z3.elim
          have g : Hle H1 (upd H' d (.lst vs0)) := fun a o z => by
            by_cases e : a = d
            · subst e; rw [q0] at z; cases z; exact upd_same
            · rw [upd_ne e]; exact keep a o z e
          have S2 := S1.addP (P := Pp) g (fun a z => (hp a z).1) (fun a z => by
            by_cases e : a = d
            · subst e; rw [upd_same]; exact fun z => nomatch z
            · rw [upd_ne e]; exact (hp a z).2.1)
          have m : Hle (mask (MK (fun a => B1 a ∨ Pp a) e10 σ) (upd H' d (.lst vs0))) (mask (MK (fun a => B1 a ∨ Pp a) e10 σ) H') := mask_of fun a o n z => by
            rw [upd_ne fun e => n (.inl (.inl (by rw [e]; exact z2)))] at z; exact z
          refine ⟨⟨S2.len, fun i t z => ?_, fun i s z y => ?_, S2.ds, fun a z => ?_⟩, ⟨fun a o z n => ?_, fun a z => f1.lost a (o2 a z)⟩, .refl⟩
          · obtain ⟨v, k1, k2⟩ := S2.sh i t z
            exact ⟨v, k1, k2.le m⟩
          · obtain ⟨b, k1, k2, k3⟩ := S2.ow i s z y
            refine ⟨b, k1, k2.le m ?_, k3⟩
            rw [upd_ne]; exact fun e => k3 (.inl (by rw [e]; exact z2))
          · by_cases e : a = d
            · subst e; exact p3.tracked
            · have := S2.bt a z; rw [upd_ne e] at this; exact this
          · obtain ⟨d', y1, y2⟩ := hn j u ho
            rw [p1] at y1; cases y1
            exact keep a o (f1.keep a o z n) fun e => by rw [e, y2] at z; cases z
end
end Ev

set_option Elab.async false
set_option linter.all false
set_option maxRecDepth 100000
set_option autoImplicit false
namespace Ev
open PySem PySem.Spec PyProof.Rows L2
open Classical
/-! ### calls of the text's defs -/
def KB (fd : FuncData) (ps : List Str) (np : Nat) (ks : List Str) (perm : List Nat) : Prop :=
  ∀ us ws : List Value, us.length = np → ws.length = ks.length → bindArgs fd ⟨us, ks.zip ws⟩ = pure (ps.zip (perm.filterMap fun i => (us ++ ws)[i]?))
structure Fd (prog : Program) (w : World) (K : PySem.W.Frag) (mg : Str → Option Value) (base : Heap) (F : Nat → Addr) (P : Prog) (wh : Nat) (kw : Nat → Nat → List Str → List Nat → Bool) (n f : Nat) (x : Str) (ps : List Str) : Prop where
  ex : ∃ fd, FnOk prog w K mg base CX0 n (F f) fd ps (spF F K P wh n f) ∧ mg x = some (.ref (F f)) ∧ PySem.W.keepIn K (.ref (F f)) = true ∧ L2.Binds K fd ps [] ∧ ∀ np ks perm, kw f np ks perm = true → KB fd ps np ks perm
section
variable {F : Nat → Addr} {K : PySem.W.Frag} {X : Cx} {B B' B1 B2 : Addr → Prop} {env env' env0 env1 env2 : Env} {σ σ' σ1 σ2 : L2.St} {H H' H0 H1 H2 H3 Hm : Hp} {v w : V} {x y o : Opd} {t : T} {e a b c : Expr} {pos : Pos} {rest : List Expr} {i : Nat} {C : Ctx} {P : Prog} {wh n f : Nat} {kw : Nat → Nat → List Str → List Nat → Bool}
theorem fos_cons {m : M Opd} {ms : M (List Opd)} {Q : List V → Hp → Prop} (h : fOs F K (do let t ← m; let ts ← ms; M.pure (t :: ts)) σ H Q) : tCons (fO F K m) (fOs F K ms) σ H Q := by
  obtain ⟨B, env, S, r, env', h0, q⟩ := h
  obtain ⟨o, env1, a1, b1⟩ := bind_ok.mp h0
  obtain ⟨os, env2, a2, b2⟩ := bind_ok.mp b1
  obtain ⟨rfl, rfl⟩ := pure_ok.mp b2
  refine ⟨B, env, S, o, _, a1, fun v H1 ⟨f1, l1, B1, e1, S1, r1, n1⟩ => ?_⟩
  refine ⟨B1, _, S1, os, _, a2, fun vs H2 ⟨f2, l2, B2, e2, S2, r2, n2⟩ => ?_⟩
  refine q (v :: vs) H2 ⟨f1.trans l1 f2, l1.trans l2, B2, e1.trans f1 e2, S2, ⟨v, vs, rfl, r1.step S1 l2 f2 e2, r2⟩, fun j t z => ?_⟩
  cases j with
  | zero =>
    simp only [List.getElem?_cons_zero, Option.some.injEq] at z
    obtain ⟨a, h1, h2⟩ := n1 t z
    exact ⟨a, by simp [h1], h2⟩
  | succ j =>
    obtain ⟨a, h1, h2⟩ := n2 j t (by simpa using z)
    exact ⟨a, by simpa using h1, f1.lost a h2⟩
theorem _root_.L2.PK.imp {X : Cx} {e : List Keyword} {t t' : TA} (h : PK X e t) (i : ∀ σ H Q, t' σ H Q → t σ H Q) : PK X e t' := ⟨fun pos pins s σ H Q I q => h.run pos pins s σ H Q I (i σ H Q q)⟩
theorem ek_nil : PK X [] (fOs F X.K (M.pure [])) := pk_nil.imp fun σ H Q ⟨B, env, S, r, env', h0, q⟩ => by
  obtain ⟨rfl, rfl⟩ := pure_ok.mp h0
  exact q [] H ⟨.refl, .refl, B, .refl, S, rfl, fun j t z => by simp at z⟩
theorem ek_cons {nm : Option Str} {kpos : Pos} {kws : List Keyword} {m : M Opd} {ms : M (List Opd)} (h : PE X e (fO F X.K m)) (hr : PK X kws (fOs F X.K ms)) : PK X (⟨nm, e, kpos⟩ :: kws) (fOs F X.K (do let t ← m; let ts ← ms; M.pure (t :: ts))) :=
  (pk_cons h hr).imp fun σ H Q h => fos_cons h
/-- an argument that the callee may change -/
theorem eo_new {m : M (T × Bool)} (h : PE X e (fE F X.K m)) : PE X e (fO F X.K (do let (t, fr) ← m; if fr && isRef t then M.pure (.own t) else fail)) := by
  refine h.imp fun σ H Q ⟨B, env, S, r, env', h0, q⟩ => ?_
  obtain ⟨z, env1, a1, b1⟩ := bind_ok.mp h0
  refine ⟨B, env, S, z, env1, a1, fun v H' p => q v H' ?_⟩
  by_cases c : (z.2 && isRef z.1) = true
  · have b1 : (if (z.2 && isRef z.1) = true then M.pure (Opd.own z.1) else fail) env1 = .ok r env' := b1
    rw [if_pos c] at b1
    obtain ⟨e1, e2⟩ := pure_ok.mp b1
    subst e1; subst e2
    have : opd z = .own z.1 := by unfold opd; rw [if_pos c]
    rw [this] at p
    exact p
  · have b1 : (if (z.2 && isRef z.1) = true then M.pure (Opd.own z.1) else fail) env1 = .ok r env' := b1
    rw [if_neg c] at b1
    cases b1
theorem pass0 {E : XK} : Passes CX0 X E := fun _ _ _ _ _ _ _ h => h.elim
theorem star_all : ∀ {es : List Expr} {env : PySem.Env}, (∀ e ∈ es, ∀ x p, e ≠ Expr.Starred x p) → ∀ q ∈ starEach es env, q.1 = false
  | [], _, _, q, h => by simp [starEach] at h
  | e :: es, env, hs, q, h => by
    rw [starEach_cons (hs e List.mem_cons_self)] at h
    rcases List.mem_cons.mp h with h | h
    · rw [h]
    · exact star_all (fun e m => hs e (List.mem_cons_of_mem _ m)) q h
theorem star_any {es : List Expr} {env : PySem.Env} (hs : ∀ e ∈ es, ∀ x p, e ≠ Expr.Starred x p) : (backTo pos (starEach es env)).any (·.1) = false := by
  rw [List.any_eq_false]
  intro q h
  unfold backTo at h
  obtain ⟨z, h1, h2⟩ := List.mem_map.mp h
  have := star_all hs z h1
  rw [← h2]
  simp [this]
theorem call_fin {ms : M (List Opd)} {Q : VK} (hio : C.io = ioOf P) (hcall : C.call = run P wh n)
    (hv : ∀ env os env', ms env = .ok os env' → ∀ (i : Nat) (o : Opd), os[i]? = some o → C.io f ≠ some i → ∃ t, o = .val t) (h : fE F K (do let os ← ms; doCall C f os) σ H Q) :
    fOs F K ms σ H fun vs H1 => spF F K P wh n f vs H1 Q (fun _ _ _ => False) := by
  obtain ⟨B, env, S, r1, env', h0, q⟩ := h
  obtain ⟨os, env1, a1, b1⟩ := bind_ok.mp h0
  exact ⟨B, env, S, os, env1, a1, fun vs H1 ⟨f1, l1, B1, e1, S1, r1, n1⟩ => call_core hio hcall (hv _ _ _ a1) S e1 f1 l1 S1 r1 n1 b1 q⟩
/-- a plain call -/
theorem ee_call {ms : M (List Opd)} {es : List Expr} {xn : Str} {ps : List Str} {p : Pos} (D : Fd X.prog X.w X.K X.mg X.base F P wh kw n f xn ps) (hr : Room n X.A) (hg : Gl X xn) (hdb : (xn == ("__debug__" : Str)) = false)
    (hio : C.io = ioOf P) (hcall : C.call = run P wh n)
    (hv : ∀ env os env', ms env = .ok os env' → ∀ (i : Nat) (o : Opd), os[i]? = some o → C.io f ≠ some i → ∃ t, o = .val t) (hs : ∀ e' ∈ e :: es, ∀ x p, e' ≠ Expr.Starred x p) (ha : PA X (e :: es) (fOs F X.K ms)) :
    PE X (.Call (.Name xn p) (e :: es) [] pos) (fE F X.K (do let os ← ms; doCall C f os)) := by
  obtain ⟨fd, Fk, hm, hk, hb, _⟩ := D.ex
  refine (pe_call (E := fun _ _ _ => False) Fk hr hg hm hk hb .nil pass0 ha hdb (starEach_cons (hs e List.mem_cons_self)) (star_any fun e' m => hs e' (List.mem_cons_of_mem _ m))).imp fun σ H Q h => ?_
  have := call_fin hio hcall hv h
  unfold tCall
  simp only [List.append_nil]
  exact this
theorem ee_call0 {xn : Str} {ps : List Str} {p : Pos} (D : Fd X.prog X.w X.K X.mg X.base F P wh kw n f xn ps) (hr : Room n X.A) (hg : Gl X xn) (hdb : (xn == ("__debug__" : Str)) = false)
    (hio : C.io = ioOf P) (hcall : C.call = run P wh n) :
    PE X (.Call (.Name xn p) [] [] pos) (fE F X.K (do let os ← (M.pure [] : M (List Opd)); doCall C f os)) := by
  obtain ⟨fd, Fk, hm, hk, hb, _⟩ := D.ex
  refine (pe_call0 (E := fun _ _ _ => False) Fk hr hg hm hk hb .nil pass0 hdb).imp fun σ H Q h => ?_
  have := call_fin hio hcall (ms := M.pure []) (fun env os env' h i o z => by
    obtain ⟨e1, _⟩ := pure_ok.mp h
    subst e1; simp at z) h
  obtain ⟨B, env, S, os, env1, a1, q⟩ := this
  obtain ⟨e1, e2⟩ := pure_ok.mp a1
  subst e1; subst e2
  exact q [] H ⟨.refl, .refl, B, .refl, S, rfl, fun j t z => by simp at z⟩
/-! ### with keywords -/
theorem Vals.perm {us : List Value} {vs : List V} (h : Vals vs us) : ∀ perm : List Nat, Vals (perm.filterMap fun i => vs[i]?) (perm.filterMap fun i => us[i]?)
  | [] => .nil
  | i :: perm => by
    have ih := Vals.perm h perm
    cases q : vs[i]? with
    | none =>
      have q2 : us[i]? = none := by
        rw [List.getElem?_eq_none_iff] at q ⊢
        rw [← Vals.length h]; exact q
      rw [List.filterMap_cons_none q, List.filterMap_cons_none q2]
      exact ih
    | some x =>
      obtain ⟨u, q2, r⟩ := L2.Vals.get h q
      rw [List.filterMap_cons_some q, List.filterMap_cons_some q2]
      exact .cons r ih
def tCallP (n m : Nat) (sp : Sp) (perm : List Nat) (t tk : TA) : TE := fun σ H Q => t σ H fun vs H1 => tk σ H1 fun zs H2 => vs.length = n ∧ zs.length = m ∧ sp (perm.filterMap fun i => (vs ++ zs)[i]?) H2 Q fun _ _ _ => False
theorem run_P {fd : FuncData} {np : Nat} {ks ps : List Str} {perm : List Nat} {sp : Sp} {ff : Addr} (Fk : FnOk X.prog X.w X.K X.mg X.base CX0 n ff fd ps sp) (hr : Room n X.A) (hb : KB fd ps np ks perm)
    {pins : List (Addr × Obj)} {s : Shared} {Q : VK} {us ws : List Value} {vs zs : List V} (I : Inv X pins σ H s) (r : Vals vs us) (rz : Vals zs ws) (l1 : vs.length = np) (l2 : zs.length = ks.length) (h : sp (perm.filterMap fun i => (vs ++ zs)[i]?) H Q (fun _ _ _ => False)) : wpAny (model X.prog X.w) X.A (call (.ref ff) us (ks.zip ws)) (EP X pins σ Q) X.xe s := by
  have r2 := Vals.perm (r.append rz) perm
  refine wpAny_call (codeAny_mono (Fk.run X.A X.stack s H ⟨us, ks.zip ws⟩ (perm.filterMap fun i => (us ++ ws)[i]?) _ Q _ hr I.env0 (.of_eq (hb us ws (r.length.symm.trans l1) (rz.length.symm.trans l2))) r2 h) fun r s' hq => ?_)
  cases r with
  | error e => exact hq.elim
  | ok fl =>
    cases fl with
    | ret u => exact I.after hq
    | next => exact False.elim hq
    | brk => exact False.elim hq
    | cont => exact False.elim hq
theorem pl_kw {es : List Expr} {kws : List Keyword} (hs : ∀ e' ∈ es, ∀ x p, e' ≠ Expr.Starred x p) (hall : (backToKw pos (keywordEach kws X.env)).all (·.1.isSome) = true) :
    ((backTo pos (starEach es X.env)).any (·.1) || (backToKw pos (keywordEach kws X.env)).any (·.1.isNone)) = false := by
  rw [star_any hs, Bool.false_or, List.any_eq_false]
  intro q m z
  have := List.all_eq_true.mp hall q m
  cases q.1 <;> simp_all
theorem pe_callP {fd : FuncData} {np : Nat} {ks ps : List Str} {perm : List Nat} {sp : Sp} {xn : Str} {p : Pos} {es : List Expr} {kws : List Keyword} {ta tk : TA} {ff : Addr} (Fk : FnOk X.prog X.w X.K X.mg X.base CX0 n ff fd ps sp) (hr : Room n X.A) (hg : Gl X xn) (hm : X.mg xn = some (.ref ff)) (hk : PySem.W.keepIn X.K (.ref ff) = true) (hb : KB fd ps np ks perm)
    (hs : ∀ e' ∈ e :: es, ∀ x p, e' ≠ Expr.Starred x p) (ha : PA X (e :: es) ta) (hkw : PK X kws tk) (hks : (backToKw pos (keywordEach kws X.env)).filterMap (·.1) = ks) (hall : (backToKw pos (keywordEach kws X.env)).all (·.1.isSome) = true) (hdb : (xn == ("__debug__" : Str)) = false) :
    PE X (.Call (.Name xn p) (e :: es) kws pos) (tCallP np ks.length sp perm ta tk) := by
  refine ⟨fun pins s σ H Q I h => ?_⟩
  refine wpAny_Call_Name_kw (ld_glob I hg hm ?_ hdb)
  refine PySem.W.callWith_KW (h₀ := X.base) I.ok.mod.kin hk hall (thn (ha.run pos pins s σ H _ I h) fun us s1 ⟨vs, H1, I1, r, q⟩ => ?_) (pl_kw hs hall) (starEach_cons (hs e List.mem_cons_self))
  refine thn (hkw.run pos pins s1 σ H1 _ I1 q) fun ws s2 ⟨zs, H2, I2, rz, l1, l2, q2⟩ => ⟨I2.kIn, ?_⟩
  rw [hks]
  exact run_P Fk hr hb I2 r rz l1 l2 q2
theorem pe_callP0 {fd : FuncData} {ks ps : List Str} {perm : List Nat} {sp : Sp} {xn : Str} {p : Pos} {kws : List Keyword} {tk : TA} {ff : Addr} (Fk : FnOk X.prog X.w X.K X.mg X.base CX0 n ff fd ps sp) (hr : Room n X.A) (hg : Gl X xn) (hm : X.mg xn = some (.ref ff)) (hk : PySem.W.keepIn X.K (.ref ff) = true) (hb : KB fd ps 0 ks perm)
    (hkw : PK X kws tk) (hks : (backToKw pos (keywordEach kws X.env)).filterMap (·.1) = ks) (hall : (backToKw pos (keywordEach kws X.env)).all (·.1.isSome) = true) (hdb : (xn == ("__debug__" : Str)) = false) :
    PE X (.Call (.Name xn p) [] kws pos) (tCallP 0 ks.length sp perm tNil tk) := by
  refine ⟨fun pins s σ H Q I h => ?_⟩
  refine wpAny_Call_Name_kw (ld_glob I hg hm ?_ hdb)
  refine PySem.W.callWith_KW0 (h₀ := X.base) I.ok.mod.kin hk hall ?_ (pl_kw (fun e' m => by cases m) hall)
  refine thn (hkw.run pos pins s σ H _ I h) fun ws s2 ⟨zs, H2, I2, rz, l1, l2, q2⟩ => ⟨I2.kIn, ?_⟩
  rw [hks]
  exact run_P (us := []) (vs := []) Fk hr hb I2 .nil rz l1 l2 q2
theorem OpdRs.append {Hx Hy : Hp} : ∀ {os qs : List Opd} {vs zs : List V}, OpdRs F K Hx Hy σ B os vs → OpdRs F K Hx Hy σ B qs zs → OpdRs F K Hx Hy σ B (os ++ qs) (vs ++ zs)
  | [], _, _, _, h, h' => by cases (show _ = _ from h); exact h'
  | o :: os, qs, vs, zs, h, h' => by
    obtain ⟨v, r, rfl, h1, h2⟩ := h
    exact ⟨v, r ++ zs, rfl, h1, OpdRs.append h2 h'⟩
theorem OpdRs.perm {Hx Hy : Hp} {os : List Opd} {vs : List V} (h : OpdRs F K Hx Hy σ B os vs) : ∀ perm : List Nat, OpdRs F K Hx Hy σ B (perm.filterMap fun i => os[i]?) (perm.filterMap fun i => vs[i]?)
  | [] => rfl
  | i :: perm => by
    have ih := OpdRs.perm h perm
    cases q : os[i]? with
    | none =>
      have q2 : vs[i]? = none := by
        rw [List.getElem?_eq_none_iff] at q ⊢
        rw [← h.len]; exact q
      rw [List.filterMap_cons_none q, List.filterMap_cons_none q2]
      exact ih
    | some x =>
      obtain ⟨u, q2, r⟩ := h.at q
      rw [List.filterMap_cons_some q, List.filterMap_cons_some q2]
      exact ⟨u, _, rfl, r, ih⟩
theorem callk_fin {ms mk : M (List Opd)} {Q : VK} {np m : Nat} {perm : List Nat} (hio : C.io = ioOf P) (hcall : C.call = run P wh n) (hno : C.io f = none)
    (hv : ∀ env os env', ms env = .ok os env' → os.length = np ∧ ∀ o ∈ os, ∃ t, o = .val t) (hvk : ∀ env os env', mk env = .ok os env' → os.length = m ∧ ∀ o ∈ os, ∃ t, o = .val t)
    (h : fE F K (do let os ← ms; let qs ← mk; if (C.io f).isSome then fail else doCall C f (perm.filterMap fun i => (os ++ qs)[i]?)) σ H Q) : tCallP np m (spF F K P wh n f) perm (fOs F K ms) (fOs F K mk) σ H Q := by
  obtain ⟨B, env, S, r1, env', h0, q⟩ := h
  obtain ⟨os, env1, a1, b1⟩ := bind_ok.mp h0
  obtain ⟨qs, env2, a2, b2⟩ := bind_ok.mp b1
  rw [hno] at b2
  have b2 : doCall C f (perm.filterMap fun i => (os ++ qs)[i]?) env2 = .ok r1 env' := b2
  obtain ⟨v1, v2⟩ := hv _ _ _ a1
  obtain ⟨v3, v4⟩ := hvk _ _ _ a2
  have vals : ∀ (i : Nat) (o : Opd), (perm.filterMap fun i => (os ++ qs)[i]?)[i]? = some o → ∃ t, o = .val t := fun i o z => by
    obtain ⟨j, _, z2⟩ := List.mem_filterMap.mp (List.mem_of_getElem? z)
    rcases List.mem_append.mp (List.mem_of_getElem? z2) with z3 | z3
    · exact v2 o z3
    · exact v4 o z3
  refine ⟨B, env, S, os, env1, a1, fun vs H1 ⟨f1, l1, B1, e1, S1, r1, n1⟩ => ?_⟩
  refine ⟨B1, env1, S1, qs, env2, a2, fun zs H2 ⟨f2, l2, B2, e2, S2, r2, n2⟩ => ⟨r1.len.symm.trans v1, r2.len.symm.trans v3, ?_⟩⟩
  refine call_core hio hcall (fun i o z _ => vals i o z) S (e1.trans f1 e2) (f1.trans l1 f2) (l1.trans l2) S2 (((r1.step S1 l2 f2 e2).append r2).perm perm) (fun j t z => ?_) b2 q
  obtain ⟨u, z2⟩ := vals j _ z
  cases z2
theorem ee_callk {ms mk : M (List Opd)} {es : List Expr} {kws : List Keyword} {ks : List Str} {np : Nat} {perm : List Nat} {xn : Str} {ps : List Str} {p : Pos} (D : Fd X.prog X.w X.K X.mg X.base F P wh kw n f xn ps) (hr : Room n X.A) (hg : Gl X xn) (hdb : (xn == ("__debug__" : Str)) = false)
    (hkw : kw f np ks perm = true) (hio : C.io = ioOf P) (hcall : C.call = run P wh n) (hno : C.io f = none)
    (hv : ∀ env os env', ms env = .ok os env' → os.length = np ∧ ∀ o ∈ os, ∃ t, o = .val t) (hvk : ∀ env os env', mk env = .ok os env' → os.length = ks.length ∧ ∀ o ∈ os, ∃ t, o = .val t)
    (hs : ∀ e' ∈ es, ∀ x p, e' ≠ Expr.Starred x p) (ha : PA X es (fOs F X.K ms)) (hms : es = [] → ms = M.pure [] ∧ np = 0) (hk2 : PK X kws (fOs F X.K mk)) (hks : (backToKw pos (keywordEach kws X.env)).filterMap (·.1) = ks) (hall : (backToKw pos (keywordEach kws X.env)).all (·.1.isSome) = true) :
    PE X (.Call (.Name xn p) es kws pos) (fE F X.K (do let os ← ms; let qs ← mk; if (C.io f).isSome then fail else doCall C f (perm.filterMap fun i => (os ++ qs)[i]?))) := by
  obtain ⟨fd, Fk, hm, hk, hb, hkb⟩ := D.ex
  have kb := hkb np ks perm hkw
  cases es with
  | cons e es => exact (pe_callP Fk hr hg hm hk kb hs ha hk2 hks hall hdb).imp fun σ H Q h => callk_fin hio hcall hno hv hvk h
  | nil =>
    obtain ⟨e1, e2⟩ := hms rfl
    subst e2
    refine (pe_callP0 Fk hr hg hm hk kb hk2 hks hall hdb).imp fun σ H Q h => ?_
    have h2 := callk_fin hio hcall hno hv hvk h
    rw [e1] at h2
    obtain ⟨B, env, S, os, env1, a1, q⟩ := h2
    obtain ⟨e3, e4⟩ := pure_ok.mp a1
    subst e3; subst e4
    exact q [] H ⟨.refl, .refl, B, .refl, S, rfl, fun j t z => by simp at z⟩
end
end Ev

set_option Elab.async false
set_option linter.all false
set_option maxRecDepth 100000
set_option autoImplicit false
namespace Ev
open PySem PySem.Spec PyProof.Rows L2
open Classical
/-! ### statements -/
/-- a def's answer -/
def RtR (F : Nat → Addr) (K : PySem.W.Frag) (B : Addr → Prop) (env env' : Env) (σ σ' : L2.St) (H H' : Hp) (r : T × Bool) (v : V) : Prop :=
  SPo F K B env env' σ σ' H H' ∧ if (r.2 && isRef r.1) = true then ∃ p, v = .ref p ∧ Sim F K (fun a => B a ∨ (a = p ∧ ¬ ownA env' σ' p)) env' σ' H' ∧ Own F K (mask (MK (fun a => B a ∨ a = p) env' σ') H') H' p r.1 ∧ (∀ (j : Nat) (u : T), env'[j]? = some (.io u) → σ'[j]? ≠ some (some (V.ref p))) ∧ (ownA env σ p ∨ H p = none)
    else Rp F K (mask (MK B env' σ') H') r.1 v
def FlE (F : Nat → Addr) (K : PySem.W.Frag) (B : Addr → Prop) (env env' : Env) (σ : L2.St) (H : Hp) (D : Ends) : Fl → Prop
  | .nx => ∀ σ' H', SPo F K B env env' σ σ' H H' → D.nx σ' H'
  | .bk => ∀ σ' H', SPo F K B env env' σ σ' H H' → D.bk σ' H'
  | .rt t fr => ∀ v σ' H', RtR F K B env env' σ σ' H H' (t, fr) v → D.rt v H'
def fS (F : Nat → Addr) (K : PySem.W.Frag) (m : M Fl) : TS := fun D σ H => ∃ B env, Sim F K B env σ H ∧ ∃ fl env', m env = .ok fl env' ∧ FlE F K B env env' σ H D fl
section
variable {F : Nat → Addr} {K : PySem.W.Frag} {X : Cx} {B B' B1 B2 : Addr → Prop} {env env' env0 env1 env2 : Env} {σ σ' σ1 σ2 : L2.St} {H H' H0 H1 H2 H3 Hm : Hp} {v w : V} {x y o : Opd} {t : T} {e a b c tg : Expr} {pos : Pos} {rest : List Expr} {i : Nat} {C : Ctx} {st : Stmt} {sts : List Stmt}
theorem RtR.trans {r : T × Bool} (h : SPo F K B env env1 σ σ1 H H1) (h' : RtR F K B env1 env2 σ1 σ2 H1 H2 r v) : RtR F K B env env2 σ σ2 H H2 r v := by
  obtain ⟨s, q⟩ := h'
  refine ⟨h.trans s, ?_⟩
  by_cases c : (r.2 && isRef r.1) = true
  · rw [if_pos c] at q ⊢
    obtain ⟨p, e, hs, ho, hj, hp⟩ := q
    refine ⟨p, e, hs, ho, hj, ?_⟩
    rcases hp with hp | hp
    · exact h.own p hp
    · exact .inr (h.frm.lost p hp)
  · rw [if_neg c] at q ⊢
    exact q
/-- the end of what follows -/
theorem fS_after {m : M Fl} {D : Ends} {fl : Fl} (h : SPo F K B env env1 σ σ1 H H1) (hm : m env1 = .ok fl env2) (q : FlE F K B env env2 σ H D fl) : fS F K m D σ1 H1 := by
  refine ⟨B, env1, h.sim, fl, env2, hm, ?_⟩
  cases fl with
  | nx => exact fun σ' H' s => q σ' H' (h.trans s)
  | bk => exact fun σ' H' s => q σ' H' (h.trans s)
  | rt t fr => exact fun v σ' H' s => q v σ' H' (s.trans h)
theorem st_nil : PSs X [] (fS F X.K (M.pure .nx)) := pss_nil.imp fun D σ H ⟨B, env, S, fl, env', h0, q⟩ => by
  obtain ⟨rfl, rfl⟩ := pure_ok.mp h0
  exact q σ H (.refl S)
theorem st_cons {m ms : M Fl} (h1 : PS X st (fS F X.K m)) (h2 : PSs X sts (fS F X.K ms)) : PSs X (st :: sts) (fS F X.K (do
    match ← m with
    | .nx => ms
    | .bk => M.pure .bk
    | .rt t fr => M.pure (.rt t fr))) := (pss_cons h1 h2).imp fun D σ H ⟨B, env, S, fl, env', h0, q⟩ => by
  obtain ⟨fl1, env1, a1, b1⟩ := bind_ok.mp h0
  refine ⟨B, env, S, fl1, env1, a1, ?_⟩
  cases fl1 with
  | nx => exact fun σ' H' s => fS_after (m := ms) s b1 q
  | bk =>
    obtain ⟨rfl, rfl⟩ := pure_ok.mp b1
    exact q
  | rt t fr =>
    obtain ⟨rfl, rfl⟩ := pure_ok.mp b1
    exact q
theorem st_one {m : M Fl} (h : PS X st (fS F X.K m)) : PSs X [st] (fS F X.K m) := pss_one h
theorem st_pass : PS X (.Pass pos) (fS F X.K (M.pure .nx)) := ps_pass.imp fun D σ H ⟨B, env, S, fl, env', h0, q⟩ => by
  obtain ⟨rfl, rfl⟩ := pure_ok.mp h0
  exact q σ H (.refl S)
theorem st_brk : PS X (.Break pos) (fS F X.K (M.pure .bk)) := ps_break.imp fun D σ H ⟨B, env, S, fl, env', h0, q⟩ => by
  obtain ⟨rfl, rfl⟩ := pure_ok.mp h0
  exact q σ H (.refl S)
theorem st_rse {α : Type} {m : M (List T)} {c : Nat} {f : List T → T} : PS X st (fS F X.K (do let ts ← m; raise c (f ts))) := ps_never.imp fun D σ H ⟨B, env, S, fl, env', h0, q⟩ => by
  obtain ⟨ts, env1, a1, b1⟩ := bind_ok.mp h0
  cases b1
theorem st_exp {m : M (T × Bool)} (hs : swapsWith e none pos.line X.env = pure false) (h : PE X e (fE F X.K m)) : PS X (.Expr e pos) (fS F X.K (do let _ ← m; M.pure .nx)) := (ps_expr h hs).imp fun D σ H ⟨B, env, S, fl, env', h0, q⟩ => by
  obtain ⟨r, env1, a1, b1⟩ := bind_ok.mp h0
  obtain ⟨rfl, rfl⟩ := pure_ok.mp b1
  refine ⟨B, env, S, r, _, a1, fun v H' p => ?_⟩
  obtain ⟨f, l, S', _⟩ := p.plain S
  exact q σ H' (.of S' f l)
theorem st_if {mc : M Bool} {ma mb : M Fl} {pa pb : List Stmt} (hc : PT X c (fT F X.K mc)) (ha : PSs X pa (fS F X.K ma)) (hb : PSs X pb (fS F X.K mb)) : PS X (.If c pa pb pos) (fS F X.K (do let t ← mc; if t then ma else mb)) := (ps_if hc ha hb).imp fun D σ H ⟨B, env, S, fl, env', h0, q⟩ => by
  obtain ⟨r, env1, a1, b1⟩ := bind_ok.mp h0
  refine ⟨B, env, S, r, env1, a1, fun H' ⟨f, l, S'⟩ => ?_⟩
  cases r with
  | true => exact fS_after (m := ma) (.of S' f l) b1 q
  | false => exact fS_after (m := mb) (.of S' f l) b1 q
theorem ret_po {r : T × Bool} (S : Sim F K B env σ H) (p : Pst F K B env env' σ H (opd r) v H') : RtR F K B env env' σ σ H H' (r.1, r.2 && isRef r.1) v := by
  obtain ⟨f, l, S', rv⟩ := p.plain S
  refine ⟨.of S' f l, ?_⟩
  by_cases c : (r.2 && isRef r.1) = true
  · have c2 : ((r.2 && isRef r.1) && isRef r.1) = true := by
      simp only [Bool.and_eq_true] at c ⊢
      exact ⟨c, c.2⟩
    rw [if_pos c2]
    obtain ⟨f2, l2, B', e2, S2, r2, n2⟩ := p
    have ho : opd r = .own r.1 := by unfold opd; rw [if_pos c]
    rw [ho] at r2 n2
    obtain ⟨a, rfl, hb, hw⟩ := r2
    obtain ⟨a', e3, hn⟩ := n2 _ rfl
    cases e3
    refine ⟨a, rfl, S2.less fun z hz => hz.elim (e2.1 z) fun hz => by rw [hz.1]; exact hb, hw.le (mask_B fun z hz => ?_) rfl, fun j u q z => ?_, .inr hn⟩
    · rcases hz with hz | hz
      · exact e2.1 z hz
      · rw [hz]; exact hb
    · exact own_notB S2 ⟨j, by rw [q]; trivial, z⟩ hb
  · have c2 : ((r.2 && isRef r.1) && isRef r.1) ≠ true := by
      intro z
      simp only [Bool.and_eq_true] at c z
      exact c z.1
    rw [if_neg c2]
    exact rv
theorem st_ret {m : M (T × Bool)} (h : PE X e (fE F X.K m)) : PS X (.Return (some e) pos) (fS F X.K (do let (t, fr) ← m; M.pure (.rt t (fr && isRef t)))) := (ps_ret h).imp fun D σ H ⟨B, env, S, fl, env', h0, q⟩ => by
  obtain ⟨r, env1, a1, b1⟩ := bind_ok.mp h0
  obtain ⟨rfl, rfl⟩ := pure_ok.mp b1
  exact ⟨B, env, S, r, _, a1, fun v H' p => q v σ H' (ret_po S p)⟩
theorem st_retN : PS X (.Return none pos) (fS F X.K (M.pure (.rt .non false))) := ps_retN.imp fun D σ H ⟨B, env, S, fl, env', h0, q⟩ => by
  obtain ⟨rfl, rfl⟩ := pure_ok.mp h0
  exact q .non σ H ⟨.refl S, by rw [if_neg (by simp)]; simp [Rp]⟩
def retV (i : Nat) : M (T × Bool) := fun env => match env.getD i .un with
    | .sh t => .ok (t, false) env
    | .ow t => .ok (t, true) env
    | _ => .bad
theorem st_retV {x : Expr} (h : PE X x (tVar i)) : PS X (.Return (some x) pos) (fS F X.K (do let (t, fr) ← retV i; M.pure (.rt t (fr && isRef t)))) := (ps_ret h).imp fun D σ H ⟨B, env, S, fl, env', h0, q⟩ => by
  obtain ⟨r, env1, a1, b1⟩ := bind_ok.mp h0
  obtain ⟨rfl, rfl⟩ := pure_ok.mp b1
  unfold retV at a1
  split at a1
  · rename_i t hg
    cases a1
    have hi : env[i]? = some (.sh t) := (getD_of (s := .sh t) (fun z => nomatch z)).mp hg
    obtain ⟨v, k1, k2⟩ := S.sh i t hi
    refine ⟨v, k1, q v σ H ⟨.refl S, ?_⟩⟩
    rw [if_neg (by simp)]
    exact k2
  · rename_i t hg
    cases a1
    have hi : env[i]? = some (.ow t) := (getD_of (s := .ow t) (fun z => nomatch z)).mp hg
    obtain ⟨p, k1, k2, k3⟩ := S.ow i _ hi trivial
    have hown : ownA env σ p := ⟨i, by rw [hi]; trivial, k1⟩
    refine ⟨.ref p, k1, q _ σ H ⟨.refl S, ?_⟩⟩
    have k2 : Own F X.K (mask (MK B env σ) H) H p t := k2
    rw [if_pos (by simp [k2.ref])]
    refine ⟨p, rfl, S.less fun z hz => hz.elim id fun hz => absurd hown hz.2, k2.le (fun a o z => ?_) rfl, fun j u z1 z2 => ?_, .inl hown⟩
    · obtain ⟨z1, z2⟩ := mask_some.mp z
      exact mask_some.mpr ⟨fun z3 => z1 (z3.elim (fun z3 => z3.elim .inl fun z3 => .inr (by rw [z3]; exact hown)) .inr), z2⟩
    · have : j = i := S.ds j i p (by rw [z1]; trivial) (by rw [hi]; trivial) z2 k1
      subst this
      rw [hi] at z1; cases z1
  · cases a1
theorem st_asg {m : M (T × Bool)} {g : T × Bool → M Unit} (hs : swapsWithSole [tg] e pos.line X.env = pure false) (hw : swappedStores [tg] e X.env = pure none) (h1 : (assignEach [tg] X.env).map (·.2) = [assign tg X.env])
    (he : PE X e (fE F X.K m)) (hg : PG X tg (fG F X.K (fun _ => True) g)) : PS X (.Assign [tg] e pos) (fS F X.K (do let r ← m; g r; M.pure .nx)) := (ps_asg he hg hs hw h1).imp fun D σ H ⟨B, env, S, fl, env', h0, q⟩ => by
  obtain ⟨r, env1, a1, b1⟩ := bind_ok.mp h0
  obtain ⟨u, env2, a2, b2⟩ := bind_ok.mp b1
  obtain ⟨rfl, rfl⟩ := pure_ok.mp b2
  exact ⟨B, env, S, r, env1, a1, fun v H' p => ⟨B, env, env1, H, r, S, p, _, a2, fun σ' H'' sp _ => q σ' H'' sp⟩⟩
theorem loopF_cons {step : T → M Fl} {x : T} {xs : List T} {fl : Fl} (h : loopF step (x :: xs) env = .ok fl env') : ∃ fl1 env1, step x env = .ok fl1 env1 ∧ ((fl1 = .nx ∧ loopF step xs env1 = .ok fl env') ∨ (fl1 = .bk ∧ fl = .nx ∧ env' = env1) ∨ ∃ t fr, fl1 = .rt t fr ∧ fl = .rt t fr ∧ env' = env1) := by
  unfold loopF at h
  obtain ⟨fl1, env1, a1, b1⟩ := bind_ok.mp h
  refine ⟨fl1, env1, a1, ?_⟩
  cases fl1 with
  | nx => exact .inl ⟨rfl, b1⟩
  | bk =>
    obtain ⟨e1, e2⟩ := pure_ok.mp b1
    exact .inr (.inl ⟨rfl, e1.symm, e2.symm⟩)
  | rt t fr =>
    obtain ⟨e1, e2⟩ := pure_ok.mp b1
    exact .inr (.inr ⟨t, fr, rfl, e1.symm, e2.symm⟩)
theorem st_for {iter : Expr} {body : List Stmt} {mi : M (List T)} {g : T × Bool → M Unit} {mb : M Fl} (hp : PassesOwn (model X.prog X.w) X.A X.env X.xe) (hc : X.calm = true) (hs : ∀ x, foldedSetIterable iter X.env x = pure x)
    (hi : PI X tg iter (fIt F X.K mi)) (hg : PG X tg (fG F X.K (fun _ => True) g)) (hb : PSs X body (fS F X.K mb)) : PS X (.For tg iter body [] pos) (fS F X.K (do
      let xs ← mi
      loopF (fun x => do g (x, false); mb) xs)) := by
  refine (ps_for hp hc hi hg hb hs).imp fun D σ H ⟨B, env, S, fl, env', h0, q⟩ => ?_
  obtain ⟨xs, env1, a1, b1⟩ := bind_ok.mp h0
  refine ⟨B, env, S, xs, env1, a1, fun J H1 ⟨f1, l1, S1, hlen, wk⟩ => ?_⟩
  have s1 : SPo F X.K B env env1 σ σ H H1 := .of S1 f1 l1
  refine ⟨fun i m σi Hi => m = xs.length - i ∧ i ≤ xs.length ∧ ∃ envi, SPo F X.K B env envi σ σi H Hi ∧ Wn (mask (MK B env1 σ) H1) B envi σi Hi ∧ loopF (fun x => do g (x, false); mb) (xs.drop i) envi = .ok fl env',
    ⟨xs.length, by simp, Nat.zero_le _, env1, s1, fun a o z => ?_, b1⟩, ?_⟩
  · obtain ⟨z1, z2⟩ := mask_some.mp z
    exact ⟨z2, z1⟩
  rintro i m σi Hi ⟨rfl, hi, envi, si, wn, hl⟩
  obtain ⟨w1, w2⟩ := wk i Hi fun a o z => (wn a o z).1
  by_cases hlt : i < xs.length
  · rw [List.drop_eq_getElem_cons hlt] at hl
    obtain ⟨fl1, env2, a2, b2⟩ := loopF_cons hl
    obtain ⟨u, env3, a3, b3⟩ := bind_ok.mp a2
    obtain ⟨go, hy⟩ := w1 _ (List.getElem?_eq_getElem hlt)
    refine .inr ⟨go, fun σ' H' => ∃ envj, SPo F X.K B env envj σ σ' H H' ∧ Wn (mask (MK B env1 σ) H1) B envj σ' H' ∧ loopF (fun x => do g (x, false); mb) (xs.drop (i + 1)) envj = .ok fl env', fun σ' H' hn => ⟨xs.length - (i + 1), by omega, rfl, hlt, hn⟩, fun x H' y => ?_⟩
    obtain ⟨g1, g2⟩ := hy x H' y
    have S2 : Sim F X.K B envi σi H' := si.sim.grow g1
    have s2 : SPo F X.K B env envi σ σi H H' := si.trans (.of S2 g1.frm .refl)
    refine ⟨B, envi, envi, H', (xs[i], false), S2, .mk .refl .refl S2 (wn.val si.sim g1 g2), env3, a3, fun σ3 H3 sp _ => ?_⟩
    have s3 := s2.trans sp
    have wn3 := (wn.grow g1).step sp
    refine ⟨B, env3, sp.sim, fl1, env2, b3, ?_⟩
    rcases b2 with ⟨rfl, b2⟩ | ⟨rfl, rfl, rfl⟩ | ⟨t, fr, rfl, rfl, rfl⟩
    · exact fun σ' H'' s => ⟨env2, s3.trans s, wn3.step s, b2⟩
    · exact fun σ' H'' s => q σ' H'' (s3.trans s)
    · exact fun v σ' H'' s => q v σ' H'' (s.trans s3)
  · have e : i = xs.length := by omega
    subst e
    rw [List.drop_length] at hl
    obtain ⟨rfl, rfl⟩ := pure_ok.mp hl
    exact .inl ⟨w2 rfl, q _ _ si⟩
theorem loopW_succ {mc : M Bool} {mb : M Fl} {k : Nat} {fl : Fl} (h : loopW mc mb (k + 1) env = .ok fl env') : ∃ b env1, mc env = .ok b env1 ∧ ((b = false ∧ fl = .nx ∧ env' = env1) ∨ (b = true ∧ ∃ fl1 env2, mb env1 = .ok fl1 env2 ∧ ((fl1 = .nx ∧ loopW mc mb k env2 = .ok fl env') ∨ (fl1 = .bk ∧ fl = .nx ∧ env' = env2) ∨ ∃ t fr, fl1 = .rt t fr ∧ fl = .rt t fr ∧ env' = env2))) := by
  unfold loopW at h
  obtain ⟨b, env1, a1, b1⟩ := bind_ok.mp h
  refine ⟨b, env1, a1, ?_⟩
  cases b with
  | false =>
    obtain ⟨e1, e2⟩ := pure_ok.mp b1
    exact .inl ⟨rfl, e1.symm, e2.symm⟩
  | true =>
    refine .inr ⟨rfl, ?_⟩
    obtain ⟨fl1, env2, a2, b2⟩ := bind_ok.mp b1
    refine ⟨fl1, env2, a2, ?_⟩
    cases fl1 with
    | nx => exact .inl ⟨rfl, b2⟩
    | bk =>
      obtain ⟨e1, e2⟩ := pure_ok.mp b2
      exact .inr (.inl ⟨rfl, e1.symm, e2.symm⟩)
    | rt t fr =>
      obtain ⟨e1, e2⟩ := pure_ok.mp b2
      exact .inr (.inr ⟨t, fr, rfl, e1.symm, e2.symm⟩)
theorem st_whl {body : List Stmt} {mc : M Bool} {mb : M Fl} {k : Nat} (hp : PassesOwn (model X.prog X.w) X.A X.env X.xe) (hc : PT X c (fT F X.K mc)) (hb : PSs X body (fS F X.K mb)) : PS X (.While c body [] pos) (fS F X.K (loopW mc mb k)) := by
  refine (ps_while hp hc hb).imp fun D σ H ⟨B, env, S, fl, env', h0, q⟩ => ?_
  refine ⟨fun m σi Hi => ∃ envi, SPo F X.K B env envi σ σi H Hi ∧ loopW mc mb m envi = .ok fl env', ⟨k, env, .refl S, h0⟩, ?_⟩
  rintro m σi Hi ⟨envi, si, hl⟩
  cases m with
  | zero => cases hl
  | succ m =>
    obtain ⟨b, env1, a1, b1⟩ := loopW_succ hl
    refine ⟨B, envi, si.sim, b, env1, a1, fun H1 ⟨f1, l1, S1⟩ => ?_⟩
    have s1 := si.trans (.of S1 f1 l1)
    rcases b1 with ⟨rfl, rfl, rfl⟩ | ⟨rfl, fl1, env2, a2, b2⟩
    · exact q _ _ s1
    · refine ⟨fun σ' H' => ∃ envj, SPo F X.K B env envj σ σ' H H' ∧ loopW mc mb m envj = .ok fl env', fun σ' H' hn => ⟨m, Nat.lt_succ_self m, hn⟩, ?_⟩
      refine ⟨B, env1, S1, fl1, env2, a2, ?_⟩
      rcases b2 with ⟨rfl, b2⟩ | ⟨rfl, rfl, rfl⟩ | ⟨t, fr, rfl, rfl, rfl⟩
      · exact fun σ' H'' s => ⟨env2, s1.trans s, b2⟩
      · exact fun σ' H'' s => q σ' H'' (s1.trans s)
      · exact fun v σ' H'' s => q v σ' H'' (s.trans s1)
end
end Ev

set_option Elab.async false
set_option linter.all false
set_option maxRecDepth 100000
set_option autoImplicit false
namespace Ev
open PySem PySem.Spec PyProof.Rows L2
open Classical
section
variable {F : Nat → Addr} {K : PySem.W.Frag} {X : Cx} {B B' B1 B2 : Addr → Prop} {env env' env0 env1 env2 : Env} {σ σ' σ1 σ2 : L2.St} {H H' H0 H1 H2 H3 Hm : Hp} {v w : V} {x y o : Opd} {t : T} {e a b c tg : Expr} {pos : Pos} {rest : List Expr} {i j l : Nat} {C : Ctx} {st : Stmt} {sts : List Stmt} {u : Unit}
/-! ### several names at once -/
theorem bindR {r : T × Bool} (S : Sim F K B2 env σ H) (h : OpdR F K (mask (MK B2 env σ) H) H σ B2 (opd r) v) (hb : bnd i r.1 (r.2 && isRef r.1) env = .ok u env') :
    ∃ B3, (∀ a, B3 a → B2 a) ∧ (∀ a, B2 a → (opd r = .own r.1 → v ≠ .ref a) → B3 a) ∧ Sim F K B3 env' (σ.set i (some v)) H ∧ (∀ a, ownA env' (σ.set i (some v)) a → ownA env σ a ∨ (opd r = .own r.1 ∧ v = .ref a)) ∧
      (∀ (j : Nat) (t : T), env[j]? = some (.io t) → (∃ t', env'[j]? = some (.io t')) ∧ (σ.set i (some v))[j]? = σ[j]?) ∧ (∀ (j : Nat) (t : T), env'[j]? = some (.io t) → ∃ t', env[j]? = some (.io t')) ∧ env'.length = env.length ∧
      Hle (mask (MK B2 env σ) H) (mask (MK B3 env' (σ.set i (some v))) H) := by
  obtain ⟨hio, e0⟩ := bnd_ok hb
  by_cases c : (r.2 && isRef r.1) = true
  · have ho : opd r = .own r.1 := by unfold opd; rw [if_pos c]
    rw [ho] at h
    obtain ⟨p, rfl, hpB, hpo⟩ := h
    rw [if_pos c] at e0
    have eB : ∀ a, ((B2 a ∧ a ≠ p) ∨ a = p) → B2 a := fun a z => z.elim (·.1) fun z => by rw [z]; exact hpB
    have S1 : Sim F K (fun a => (B2 a ∧ a ≠ p) ∨ a = p) env σ H := S.less eB
    have ho1 : Own F K (mask (MK (fun a => (B2 a ∧ a ≠ p) ∨ a = p) env σ) H) H p r.1 := hpo.le (mask_B eB) rfl
    obtain ⟨env3, e3, k1, k2, k3, k4⟩ := SPo.bindO (i := i) (H1 := fun a => if a = p then none else some (.lst [])) (B := fun a => B2 a ∧ a ≠ p) S1 ho1 (fun z => z.2 rfl) (by simp) hio
    rw [← e3] at e0
    subst e0
    have own : ∀ a, ownA env' (σ.set i (some (.ref p))) a → ownA env σ a ∨ a = p := fun a z => by
      rcases k2 a z with z | z
      · exact .inl z
      · by_cases q : a = p
        · exact .inr q
        · rw [if_neg q] at z; cases z
    refine ⟨fun a => B2 a ∧ a ≠ p, fun a z => z.1, fun a z n => ⟨z, fun q => n ho (by rw [q])⟩, k1, fun a z => (own a z).elim .inl fun z => .inr ⟨ho, by rw [z]⟩, k3, k4, by rw [e3, List.length_set], fun a o q => ?_⟩
    obtain ⟨h1, h2⟩ := mask_some.mp q
    refine mask_some.mpr ⟨fun z => ?_, h2⟩
    rcases z with z | z
    · exact h1 (.inl z.1)
    · rcases own a z with z | z
      · exact h1 (.inr z)
      · exact h1 (.inl (by rw [z]; exact hpB))
  · have ho : opd r = .val r.1 := by unfold opd; rw [if_neg c]
    rw [ho] at h
    rw [if_neg c] at e0
    subst e0
    have st := SPo.bindV (i := i) (v := v) S h hio
    have own : ∀ a, ownA (env.set i (.sh r.1)) (σ.set i (some v)) a → ownA env σ a := fun a z => own_setSh S z
    refine ⟨B2, fun a z => z, fun a z _ => z, st.sim, fun a z => .inl (own a z), st.io, st.oi, st.len, fun a o q => ?_⟩
    obtain ⟨h1, h2⟩ := mask_some.mp q
    exact mask_some.mpr ⟨fun z => h1 (z.elim .inl fun z => .inr (own a z)), h2⟩
theorem OpdR.moveB {r : T × Bool} {q : V} {r2 : T × Bool} {B3 : Addr → Prop} (h : OpdR F K (mask (MK B2 env σ) H) H σ B2 (opd r2) q) (hB : ∀ a, B2 a → (opd r = .own r.1 → v ≠ .ref a) → B3 a) (ne : ∀ a, opd r = .own r.1 → v = .ref a → opd r2 = .own r2.1 → q ≠ .ref a) (m : Hle (mask (MK B2 env σ) H) (mask (MK B3 env' σ') H)) :
    OpdR F K (mask (MK B3 env' σ') H) H σ' B3 (opd r2) q := by
  unfold opd at h ne ⊢
  by_cases c : (r2.2 && isRef r2.1) = true
  · rw [if_pos c] at h ne ⊢
    obtain ⟨p, rfl, hp, ho⟩ := h
    exact ⟨p, rfl, hB p hp fun z1 z2 => ne p z1 z2 rfl rfl, ho.le m rfl⟩
  · rw [if_neg c] at h ⊢
    exact h.le m
/-- two names -/
theorem st_par2 {m1 m2 : M (T × Bool)} {xn yn : Str} {px py pt pt2 : Pos} {kt k2 : Nat} (hc : X.calm = true) (hN : X.N.Nodup) (hi : X.N[i]? = some xn) (hj : X.N[j]? = some yn) (hij : i ≠ j)
    (hx : X.env.scope.names.lookup xn = some .local) (hy : X.env.scope.names.lookup yn = some .local) (hs1 : ∀ x p, a ≠ .Starred x p) (hs2 : ∀ x p, b ≠ .Starred x p) (ha : PE X a (fE F X.K m1)) (hb : PE X b (fE F X.K m2))
    (hw : swappedStores [.Tuple [.Name xn px, .Name yn py] kt pt] (.Tuple [a, b] k2 pt2) X.env = pure (some [xn, yn]))
    (hs : swapsWithSole [.Tuple [.Name xn px, .Name yn py] kt pt] (.Tuple [a, b] k2 pt2) pos.line X.env = pure false) :
    PS X (.Assign [.Tuple [.Name xn px, .Name yn py] kt pt] (.Tuple [a, b] k2 pt2) pos) (fS F X.K (do
      let r1 ← m1
      let r2 ← m2
      bnd i r1.1 (r1.2 && isRef r1.1)
      bnd j r2.1 (r2.2 && isRef r2.1)
      M.pure .nx)) := by
  refine (ps_par hc hN hi hj hij hx hy (pa_cons ha (pa_cons hb pa_nil (starEach_cons hs2)) (starEach_cons hs1)) hw hs).imp fun D σ H ⟨B, env, S, fl, env', h0, q⟩ => ?_
  obtain ⟨r1, env1, a1, b1⟩ := bind_ok.mp h0
  obtain ⟨r2, env2, a2, b2⟩ := bind_ok.mp b1
  obtain ⟨u3, env3, a3, b3⟩ := bind_ok.mp b2
  obtain ⟨u4, env4, a4, b4⟩ := bind_ok.mp b3
  obtain ⟨rfl, rfl⟩ := pure_ok.mp b4
  refine ⟨B, env, S, r1, env1, a1, fun v H1 ⟨f1, l1, B1, e1, S1, o1, n1⟩ => ⟨B1, env1, S1, r2, env2, a2, fun w H2 ⟨f2, l2, B2, e2, S2, o2, n2⟩ => ⟨v, w, rfl, q _ H2 ?_⟩⟩⟩
  have o1' := o1.step S1 l2 f2 e2
  obtain ⟨B3, x1, x2, x3, x4, x5, x6, x7, x8⟩ := bindR (i := i) S2 o1' a3
  have ne : ∀ p, opd r1 = .own r1.1 → v = .ref p → opd r2 = .own r2.1 → w ≠ .ref p := fun p z1 z2 z3 z4 => by
    obtain ⟨p', k1, k2⟩ := n2 _ z3
    rw [z4] at k1; cases k1
    rw [z1] at o1
    obtain ⟨p', k3, k4, k5⟩ := o1
    rw [z2] at k3; cases k3
    exact k5.tracked k2
  have o2' : OpdR F X.K (mask (MK B3 env3 (σ.set i (some v))) H2) H2 (σ.set i (some v)) B3 (opd r2) w := OpdR.moveB o2 x2 ne x8
  obtain ⟨B4, y1, y2, y3, y4, y5, y6, y7, y8⟩ := bindR (i := j) x3 o2' a4
  have p1n : ∀ p, opd r1 = .own r1.1 → v = .ref p → H p = none := fun p z1 z2 => by
    obtain ⟨p', k1, k2⟩ := n1 _ z1
    rw [z2] at k1; cases k1; exact k2
  have p2n : ∀ p, opd r2 = .own r2.1 → w = .ref p → H p = none := fun p z1 z2 => by
    obtain ⟨p', k1, k2⟩ := n2 _ z1
    rw [z2] at k1; cases k1; exact f1.lost _ k2
  have hB : ∀ p, B p → B4 p := fun p z => by
    have z2 : B2 p := e2.1 p (e1.1 p z)
    refine y2 p (x2 p z2 fun k1 k2 => ?_) fun k1 k2 => ?_
    · exact S.bt p z (p1n p k1 k2)
    · exact S.bt p z (p2n p k1 k2)
  have l3 := l1.trans l2
  refine ⟨y3.less hB, f1.trans l1 f2, fun p z => ?_, fun n t z => ?_, fun n t z => ?_, y7.trans (x7.trans l3.1)⟩
  · rcases y4 p z with z | ⟨z1, z2⟩
    · rcases x4 p z with z | ⟨z1, z2⟩
      · exact .inl (l3.own z)
      · exact .inr (p1n p z1 z2)
    · exact .inr (p2n p z1 z2)
  · obtain ⟨t1, z1⟩ := l3.2.2.1 n t z
    obtain ⟨⟨t2, z2⟩, z3⟩ := x5 n t1 z1
    obtain ⟨z4, z5⟩ := y5 n t2 z2
    exact ⟨z4, z5.trans z3⟩
  · obtain ⟨t1, z1⟩ := y6 n t z
    obtain ⟨t2, z2⟩ := x6 n t1 z1
    exact l3.2.2.2 n t2 z2
/-- three names -/
theorem st_par3 {d : Expr} {l : Nat} {m1 m2 m3 : M (T × Bool)} {xn yn zn : Str} {px py pz pt pt2 : Pos} {kt k2 : Nat} (hc : X.calm = true) (hN : X.N.Nodup) (hi : X.N[i]? = some xn) (hj : X.N[j]? = some yn) (hl : X.N[l]? = some zn) (hij : i ≠ j) (hil : i ≠ l) (hjl : j ≠ l)
    (hx : X.env.scope.names.lookup xn = some .local) (hy : X.env.scope.names.lookup yn = some .local) (hz : X.env.scope.names.lookup zn = some .local) (hs1 : ∀ x p, a ≠ .Starred x p) (hs2 : ∀ x p, b ≠ .Starred x p) (hs3 : ∀ x p, d ≠ .Starred x p) (ha : PE X a (fE F X.K m1)) (hb : PE X b (fE F X.K m2)) (hd : PE X d (fE F X.K m3))
    (hw : swappedStores [.Tuple [.Name xn px, .Name yn py, .Name zn pz] kt pt] (.Tuple [a, b, d] k2 pt2) X.env = pure (some [xn, yn, zn]))
    (hs : swapsWithSole [.Tuple [.Name xn px, .Name yn py, .Name zn pz] kt pt] (.Tuple [a, b, d] k2 pt2) pos.line X.env = pure false) :
    PS X (.Assign [.Tuple [.Name xn px, .Name yn py, .Name zn pz] kt pt] (.Tuple [a, b, d] k2 pt2) pos) (fS F X.K (do
      let r1 ← m1
      let r2 ← m2
      let r3 ← m3
      bnd i r1.1 (r1.2 && isRef r1.1)
      bnd j r2.1 (r2.2 && isRef r2.1)
      bnd l r3.1 (r3.2 && isRef r3.1)
      M.pure .nx)) := by
  refine (ps_par3 hc hN hi hj hl hij hil hjl hx hy hz (pa_cons ha (pa_cons hb (pa_cons hd pa_nil (starEach_cons hs3)) (starEach_cons hs2)) (starEach_cons hs1)) hw hs).imp fun D σ H ⟨B, env, S, fl, env', h0, q⟩ => ?_
  obtain ⟨r1, env1, a1, b1⟩ := bind_ok.mp h0
  obtain ⟨r2, env2, a2, b2⟩ := bind_ok.mp b1
  obtain ⟨r3, env3, a3, b3⟩ := bind_ok.mp b2
  obtain ⟨u4, env4, a4, b4⟩ := bind_ok.mp b3
  obtain ⟨u5, env5, a5, b5⟩ := bind_ok.mp b4
  obtain ⟨u6, env6, a6, b6⟩ := bind_ok.mp b5
  obtain ⟨rfl, rfl⟩ := pure_ok.mp b6
  refine ⟨B, env, S, r1, env1, a1, fun v H1 ⟨f1, l1, B1, e1, S1, o1, n1⟩ => ⟨B1, env1, S1, r2, env2, a2, fun w H2 ⟨f2, l2, B2, e2, S2, o2, n2⟩ => ⟨B2, env2, S2, r3, env3, a3, fun y H3 ⟨f3, l3, B3, e3, S3, o3, n3⟩ => ⟨v, w, y, rfl, q _ H3 ?_⟩⟩⟩⟩
  have o1b := o1.step S1 l2 f2 e2
  have o1' := o1b.step S2 l3 f3 e3
  have o2' := o2.step S2 l3 f3 e3
  have ne12 : ∀ p, opd r1 = .own r1.1 → v = .ref p → opd r2 = .own r2.1 → w ≠ .ref p := fun p z1 z2 z3 z4 => by
    obtain ⟨p', k1, k2⟩ := n2 _ z3
    rw [z4] at k1; cases k1
    rw [z1] at o1
    obtain ⟨p', k3, k4, k5⟩ := o1
    rw [z2] at k3; cases k3
    exact k5.tracked k2
  have ne13 : ∀ p, opd r1 = .own r1.1 → v = .ref p → opd r3 = .own r3.1 → y ≠ .ref p := fun p z1 z2 z3 z4 => by
    obtain ⟨p', k1, k2⟩ := n3 _ z3
    rw [z4] at k1; cases k1
    rw [z1] at o1b
    obtain ⟨p', k3, k4, k5⟩ := o1b
    rw [z2] at k3; cases k3
    exact k5.tracked k2
  have ne23 : ∀ p, opd r2 = .own r2.1 → w = .ref p → opd r3 = .own r3.1 → y ≠ .ref p := fun p z1 z2 z3 z4 => by
    obtain ⟨p', k1, k2⟩ := n3 _ z3
    rw [z4] at k1; cases k1
    rw [z1] at o2
    obtain ⟨p', k3, k4, k5⟩ := o2
    rw [z2] at k3; cases k3
    exact k5.tracked k2
  obtain ⟨B4, x1, x2, x3, x4, x5, x6, x7, x8⟩ := bindR (i := i) S3 o1' a4
  have o2'' : OpdR F X.K (mask (MK B4 env4 (σ.set i (some v))) H3) H3 (σ.set i (some v)) B4 (opd r2) w := OpdR.moveB o2' x2 ne12 x8
  have o3'' : OpdR F X.K (mask (MK B4 env4 (σ.set i (some v))) H3) H3 (σ.set i (some v)) B4 (opd r3) y := OpdR.moveB o3 x2 ne13 x8
  obtain ⟨B5, y1, y2, y3, y4, y5, y6, y7, y8⟩ := bindR (i := j) x3 o2'' a5
  have o3''' : OpdR F X.K (mask (MK B5 env5 ((σ.set i (some v)).set j (some w))) H3) H3 ((σ.set i (some v)).set j (some w)) B5 (opd r3) y := OpdR.moveB o3'' y2 ne23 y8
  obtain ⟨B6, w1, w2, w3, w4, w5, w6, w7, w8⟩ := bindR (i := l) y3 o3''' a6
  have p1n : ∀ p, opd r1 = .own r1.1 → v = .ref p → H p = none := fun p z1 z2 => by
    obtain ⟨p', k1, k2⟩ := n1 _ z1
    rw [z2] at k1; cases k1; exact k2
  have p2n : ∀ p, opd r2 = .own r2.1 → w = .ref p → H p = none := fun p z1 z2 => by
    obtain ⟨p', k1, k2⟩ := n2 _ z1
    rw [z2] at k1; cases k1; exact f1.lost _ k2
  have p3n : ∀ p, opd r3 = .own r3.1 → y = .ref p → H p = none := fun p z1 z2 => by
    obtain ⟨p', k1, k2⟩ := n3 _ z1
    rw [z2] at k1; cases k1; exact f1.lost _ (f2.lost _ k2)
  have hB : ∀ p, B p → B6 p := fun p z => by
    have z2 : B3 p := e3.1 p (e2.1 p (e1.1 p z))
    exact w2 p (y2 p (x2 p z2 fun k1 k2 => S.bt p z (p1n p k1 k2)) fun k1 k2 => S.bt p z (p2n p k1 k2)) fun k1 k2 => S.bt p z (p3n p k1 k2)
  have l4 := (l1.trans l2).trans l3
  refine ⟨w3.less hB, (f1.trans l1 f2).trans (l1.trans l2) f3, fun p z => ?_, fun n t z => ?_, fun n t z => ?_, w7.trans (y7.trans (x7.trans l4.1))⟩
  · rcases w4 p z with z | ⟨z1, z2⟩
    · rcases y4 p z with z | ⟨z1, z2⟩
      · rcases x4 p z with z | ⟨z1, z2⟩
        · exact .inl (l4.own z)
        · exact .inr (p1n p z1 z2)
      · exact .inr (p2n p z1 z2)
    · exact .inr (p3n p z1 z2)
  · obtain ⟨t1, z1⟩ := l4.2.2.1 n t z
    obtain ⟨⟨t2, z2⟩, z3⟩ := x5 n t1 z1
    obtain ⟨⟨t3, z4⟩, z5⟩ := y5 n t2 z2
    obtain ⟨z6, z7⟩ := w5 n t3 z4
    exact ⟨z6, z7.trans (z5.trans z3)⟩
  · obtain ⟨t1, z1⟩ := w6 n t z
    obtain ⟨t2, z2⟩ := y6 n t1 z1
    obtain ⟨t3, z3⟩ := x6 n t2 z2
    exact l4.2.2.2 n t3 z3
end
end Ev

set_option Elab.async false
set_option linter.all false
set_option maxRecDepth 100000
set_option autoImplicit false
namespace Ev
open PySem PySem.Spec PyProof.Rows L2
open Classical
section
variable {F : Nat → Addr} {K : PySem.W.Frag} {X : Cx} {B B' B1 B2 : Addr → Prop} {env env' env0 env1 env2 : Env} {σ σ' σ1 σ2 : L2.St} {H H' H0 H1 H2 H3 Hm : Hp} {v w : V} {x y o : Opd} {t : T} {e a b c tg : Expr} {pos : Pos} {rest : List Expr} {i j l : Nat} {C : Ctx} {st : Stmt} {sts : List Stmt} {u : Unit} {vs1 : List Nat}
theorem pst_bnd {r : T × Bool} (S0 : Sim F K B env σ H) (p : Pst F K B env env1 σ H (opd r) v H1) (h : bnd i r.1 (r.2 && isRef r.1) env1 = .ok u env') : SPo F K B env env' σ (σ.set i (some v)) H H1 := by
  obtain ⟨f, l, B', e, S, rv, hn⟩ := p
  obtain ⟨B3, x1, x2, x3, x4, x5, x6, x7, x8⟩ := bindR (i := i) S rv h
  have pn : ∀ p, opd r = .own r.1 → v = .ref p → H p = none := fun p z1 z2 => by
    obtain ⟨p', k1, k2⟩ := hn _ z1
    rw [z2] at k1; cases k1; exact k2
  refine ⟨x3.less fun p z => x2 p (e.1 p z) fun k1 k2 => S0.bt p z (pn p k1 k2), f, fun p z => ?_, fun n t z => ?_, fun n t z => ?_, x7.trans l.1⟩
  · rcases x4 p z with z | ⟨z1, z2⟩
    · exact .inl (l.own z)
    · exact .inr (pn p z1 z2)
  · obtain ⟨t1, z1⟩ := l.2.2.1 n t z
    exact x5 n t1 z1
  · obtain ⟨t1, z1⟩ := x6 n t z
    exact l.2.2.2 n t1 z1
theorem st_setLc {xn : Str} {py : Pos} {elt iter : Expr} {ifs : List Expr} {scope : Scope} {ow : List (Str × Nat)} {spos : Pos} {mi : M (List T)} {g : T × Bool → M Unit} {mt : M Bool} {me : M (T × Bool)} (hc : X.calm = true) (hN : X.N.Nodup) (hy : X.N[i]? = some xn) (hyl : X.env.scope.names.lookup xn = some .local)
    (hsw : swapsWith (.ListComp elt [⟨tg, iter, ifs, 0⟩] scope pos) (some (.Name xn py)) spos.line X.env = pure true) (hi : PI X tg iter (fIt F X.K mi)) (ok : BlkOk X.N X.env.scope scope ow)
    (hg : ∀ (s : Shared) (H : Hp) (C : Addr) (cl : List (Str × Addr)) (fp : List Addr), PG (X.blk s H scope (compEnvC scope cl C X.env) fp) tg (fG F X.K (· ∈ ow.map (·.2)) g))
    (ht : ∀ (s : Shared) (H : Hp) (C : Addr) (cl : List (Str × Addr)) (fp : List Addr), PTs (X.blk s H scope (compEnvC scope cl C X.env) fp) ifs (fT F X.K mt))
    (he : ∀ (s : Shared) (H : Hp) (C : Addr) (cl : List (Str × Addr)) (fp : List Addr), PE (X.blk s H scope (compEnvC scope cl C X.env) fp) elt (fE F X.K me)) (hs : ∀ x, foldedSetIterable iter X.env x = pure x) :
    PS X (.Assign [.Name xn py] (.ListComp elt [⟨tg, iter, ifs, 0⟩] scope pos) spos) (fS F X.K (do let r ← compM (ow.map (·.2)) mi g mt me; bnd i r.1 (r.2 && isRef r.1); M.pure .nx)) :=
  (ps_setLc hc hN hy hyl hsw hi ok hg ht he hs).imp fun D σ H ⟨B, env, S, fl, env', h0, q⟩ => by
    obtain ⟨r, env1, a1, b1⟩ := bind_ok.mp h0
    obtain ⟨u, env2, a2, b2⟩ := bind_ok.mp b1
    obtain ⟨rfl, rfl⟩ := pure_ok.mp b2
    exact comp_imp ⟨B, env, S, r, env1, a1, fun v H' p => q _ _ (pst_bnd S p a2)⟩
theorem st_setLc2 {xn : Str} {py : Pos} {elt iter tg1 iter1 : Expr} {ifs ifs1 : List Expr} {scope : Scope} {ow : List (Str × Nat)} {spos : Pos} {mi mi1 : M (List T)} {g g1 : T × Bool → M Unit} {mt mt1 : M Bool} {me : M (T × Bool)} (hc : X.calm = true) (hN : X.N.Nodup) (hy : X.N[i]? = some xn) (hyl : X.env.scope.names.lookup xn = some .local)
    (hsw : swapsWith (.ListComp elt [⟨tg, iter, ifs, 0⟩, ⟨tg1, iter1, ifs1, 0⟩] scope pos) (some (.Name xn py)) spos.line X.env = pure true) (hi : PI X tg iter (fIt F X.K mi)) (ok : BlkOk X.N X.env.scope scope ow) (hv : ∀ i ∈ vs1, i ∈ ow.map (·.2))
    (hg : ∀ (s : Shared) (H : Hp) (C : Addr) (cl : List (Str × Addr)) (fp : List Addr), PG (X.blk s H scope (compEnvC scope cl C X.env) fp) tg (fG F X.K (· ∈ ow.map (·.2)) g))
    (ht : ∀ (s : Shared) (H : Hp) (C : Addr) (cl : List (Str × Addr)) (fp : List Addr), PTs (X.blk s H scope (compEnvC scope cl C X.env) fp) ifs (fT F X.K mt))
    (hi1 : ∀ (s : Shared) (H : Hp) (C : Addr) (cl : List (Str × Addr)) (fp : List Addr), PI (X.blk s H scope (compEnvC scope cl C X.env) fp) tg1 iter1 (fIt F X.K mi1))
    (hg1 : ∀ (s : Shared) (H : Hp) (C : Addr) (cl : List (Str × Addr)) (fp : List Addr), PG (X.blk s H scope (compEnvC scope cl C X.env) fp) tg1 (fG F X.K (· ∈ vs1) g1))
    (ht1 : ∀ (s : Shared) (H : Hp) (C : Addr) (cl : List (Str × Addr)) (fp : List Addr), PTs (X.blk s H scope (compEnvC scope cl C X.env) fp) ifs1 (fT F X.K mt1))
    (he : ∀ (s : Shared) (H : Hp) (C : Addr) (cl : List (Str × Addr)) (fp : List Addr), PE (X.blk s H scope (compEnvC scope cl C X.env) fp) elt (fE F X.K me)) (hs : ∀ x, foldedSetIterable iter X.env x = pure x) (hs1 : ∀ env x, foldedSetIterable iter1 env x = pure x) :
    PS X (.Assign [.Name xn py] (.ListComp elt [⟨tg, iter, ifs, 0⟩, ⟨tg1, iter1, ifs1, 0⟩] scope pos) spos) (fS F X.K (do let r ← comp2M (ow.map (·.2)) vs1 mi mi1 g g1 mt mt1 me; bnd i r.1 (r.2 && isRef r.1); M.pure .nx)) :=
  (ps_setLc2 hc hN hy hyl hsw hi ok hv hg ht hi1 hg1 ht1 he hs hs1).imp fun D σ H ⟨B, env, S, fl, env', h0, q⟩ => by
    obtain ⟨r, env1, a1, b1⟩ := bind_ok.mp h0
    obtain ⟨u, env2, a2, b2⟩ := bind_ok.mp b1
    obtain ⟨rfl, rfl⟩ := pure_ok.mp b2
    exact comp2_imp hv ⟨B, env, S, r, env1, a1, fun v H' p => q _ _ (pst_bnd S p a2)⟩
end
/-! ### a def's body -/
section
variable {F : Nat → Addr} {K : PySem.W.Frag} {P : Prog} {wh n f : Nat} {ts : List T} {vs : List V} {H H' Hm : Hp} {d : FnD}
theorem start_get {i : Nat} {s : Sl} (hs : s ≠ .un) (h : (Ev.start d ts)[i]? = some s) : ∃ t, ts[i]? = some t ∧ s = if d.io = some i then Sl.io t else Sl.sh t := by
  unfold Ev.start at h
  by_cases hi : i < ts.length
  · rw [List.getElem?_append_left (by simpa using hi)] at h
    rw [List.getElem?_map, List.getElem?_zipIdx] at h
    rw [List.getElem?_eq_getElem hi] at h ⊢
    simp at h
    exact ⟨_, rfl, h.symm⟩
  · rw [List.getElem?_append_right (by simpa using hi)] at h
    rw [List.getElem?_replicate] at h
    split at h
    · cases h; exact absurd rfl hs
    · cases h
theorem start_io {j : Nat} {t : T} (hj : d.io = some j) (h : ts[j]? = some t) : (Ev.start d ts)[j]? = some (.io t) := by
  have hi := (List.getElem?_eq_some_iff.mp h).1
  unfold Ev.start
  rw [List.getElem?_append_left (by simpa using hi), List.getElem?_map, List.getElem?_zipIdx, h]
  simp [hj]
theorem startV_get {N : List Str} {i : Nat} {v : V} (h : vs[i]? = some v) : (L2.start N vs)[i]? = some (some v) := by
  have hi := (List.getElem?_eq_some_iff.mp h).1
  unfold L2.start
  rw [List.getElem?_append_left (by simpa using hi), List.getElem?_map, h]
  rfl
def B0 (d : FnD) (vs : List V) (Hm H : Hp) : Addr → Prop := fun a => H a ≠ none ∧ Hm a = none ∧ ¬ ∃ j, d.io = some j ∧ vs[j]? = some (.ref a)
theorem own_start {N : List Str} {a : Addr} (hl : ts.length = vs.length) (h : ownA (Ev.start d ts) (L2.start N vs) a) : ∃ j t, d.io = some j ∧ ts[j]? = some t ∧ vs[j]? = some (.ref a) := by
  obtain ⟨j, h1, h2⟩ := h
  obtain ⟨s, q, z⟩ := getElem_of_isOwn h1
  obtain ⟨t, k1, k2⟩ := start_get (fun e => by subst e; exact z) q
  by_cases c : d.io = some j
  · obtain ⟨v, hv⟩ := getElem?_of_lt (show j < vs.length by rw [← hl]; exact (List.getElem?_eq_some_iff.mp k1).1)
    rw [startV_get hv] at h2; cases h2
    exact ⟨j, t, c, k1, hv⟩
  · rw [if_neg c] at k2; subst k2; exact z.elim
theorem start_sim {N : List Str} (hns : N.length = d.ns) (hnp : ts.length = d.np) (hle : Hle Hm H) (ha : ArgR F K Hm H d.io ts vs) (hN : d.np ≤ d.ns) : Sim F K (B0 d vs Hm H) (Ev.start d ts) (L2.start N vs) H := by
  obtain ⟨hl, hg⟩ := ha
  have hm : Hle Hm (mask (MK (B0 d vs Hm H) (Ev.start d ts) (L2.start N vs)) H) := fun a o q => by
    refine mask_some.mpr ⟨fun z => ?_, hle a o q⟩
    rcases z with z | z
    · rw [z.2.1] at q; cases q
    · obtain ⟨j, t, h1, h2, h3⟩ := own_start hl z
      have := hg j t _ h2 h3
      rw [if_pos h1] at this
      obtain ⟨d', e1, e2, _⟩ := this
      cases e1
      rw [e2] at q; cases q
  refine ⟨?_, fun i t q => ?_, fun i s q z => ?_, fun i j a h1 h2 h3 h4 => ?_, fun a z => z.1⟩
  · unfold Ev.start L2.start
    simp only [List.length_append, List.length_map, List.length_zipIdx, List.length_replicate]
    omega
  · obtain ⟨t', k1, k2⟩ := start_get (s := .sh t) (fun z => nomatch z) q
    by_cases c : d.io = some i
    · rw [if_pos c] at k2; cases k2
    · rw [if_neg c] at k2; cases k2
      obtain ⟨v, hv⟩ := getElem?_of_lt (show i < vs.length by rw [← hl]; exact (List.getElem?_eq_some_iff.mp k1).1)
      have := hg i t v k1 hv
      rw [if_neg c] at this
      exact ⟨v, startV_get hv, this.le hm⟩
  · obtain ⟨t', k1, k2⟩ := start_get (fun e => by subst e; exact z) q
    by_cases c : d.io = some i
    · rw [if_pos c] at k2; subst k2
      obtain ⟨v, hv⟩ := getElem?_of_lt (show i < vs.length by rw [← hl]; exact (List.getElem?_eq_some_iff.mp k1).1)
      have := hg i t' v k1 hv
      rw [if_pos c] at this
      obtain ⟨p, e1, e2, e3⟩ := this
      subst e1
      exact ⟨p, startV_get hv, Own.le (t := t') hm rfl e3, fun z => z.2.2 ⟨i, c, hv⟩⟩
    · rw [if_neg c] at k2; subst k2; exact z.elim
  · obtain ⟨s1, q1, z1⟩ := getElem_of_isOwn h1
    obtain ⟨s2, q2, z2⟩ := getElem_of_isOwn h2
    obtain ⟨t1, _, k1⟩ := start_get (fun e => by subst e; exact z1) q1
    obtain ⟨t2, _, k2⟩ := start_get (fun e => by subst e; exact z2) q2
    by_cases c1 : d.io = some i
    · by_cases c2 : d.io = some j
      · rw [c1] at c2; exact Option.some.inj c2
      · rw [if_neg c2] at k2; subst k2; exact z2.elim
    · rw [if_neg c1] at k1; subst k1; exact z1.elim
theorem out_ok {N : List Str} {env' : Env} {σ' : L2.St} {r : T × Bool} {v : V} {out : Option T} (hl : ts.length = vs.length) (hle : Hle Hm H) (hio : ∀ j, d.io = some j → ∃ t, ts[j]? = some t)
    (h : RtR F K (B0 d vs Hm H) (Ev.start d ts) env' (L2.start N vs) σ' H H' r v) (ho : outOf env' d.io = some out) : OutR F K Hm H H' d.io vs out r v := by
  obtain ⟨s, q⟩ := h
  -- the argument's slot
  have slot : ∀ j, d.io = some j → ∃ t p t1, vs[j]? = some (V.ref p) ∧ env'[j]? = some (.io t1) ∧ σ'[j]? = some (some (V.ref p)) ∧ out = some t1 := fun j hj => by
    obtain ⟨t, ht⟩ := hio j hj
    obtain ⟨⟨t1, k1⟩, k2⟩ := s.io j t (start_io hj ht)
    obtain ⟨w, hw⟩ := getElem?_of_lt (show j < vs.length by rw [← hl]; exact (List.getElem?_eq_some_iff.mp ht).1)
    rw [startV_get hw] at k2
    obtain ⟨p, e1, _, _⟩ := s.sim.ow j _ k1 trivial
    rw [k2] at e1; cases e1
    refine ⟨t, p, t1, hw, k1, k2, ?_⟩
    rw [hj] at ho
    unfold outOf at ho
    simp only [(getD_of (s := .io t1) (fun z => nomatch z)).mpr k1] at ho
    cases ho; rfl
  have ow0 : ∀ a, ownA (Ev.start d ts) (L2.start N vs) a → ownA env' σ' a ∧ ∃ j, d.io = some j ∧ vs[j]? = some (.ref a) := fun a z => by
    obtain ⟨j, t, h1, h2, h3⟩ := own_start hl z
    obtain ⟨_, p, t1, k1, k2, k3, _⟩ := slot j h1
    rw [h3] at k1; cases k1
    exact ⟨⟨j, by rw [k2]; trivial, k3⟩, j, h1, h3⟩
  have hr : ∀ a o, mask (MK (B0 d vs Hm H) env' σ') H' a = some o → Hm a = some o ∨ H a = none := fun a o z => by
    obtain ⟨z1, z2⟩ := mask_some.mp z
    cases e : H a with
    | none => exact .inr rfl
    | some o' =>
      have n1 : ¬ ownA (Ev.start d ts) (L2.start N vs) a := fun y => z1 (.inr (ow0 a y).1)
      have e2 := s.frm.keep a o' e n1
      rw [z2] at e2; cases e2
      cases e3 : Hm a with
      | some o'' =>
        have := hle a o'' e3
        rw [e] at this; cases this
        exact .inl rfl
      | none =>
        exfalso
        refine z1 (.inl ⟨by rw [e]; exact (fun y => nomatch y), e3, fun ⟨j, k1, k2⟩ => ?_⟩)
        obtain ⟨_, p, t1, m1, m2, m3, _⟩ := slot j k1
        rw [k2] at m1; cases m1
        exact z1 (.inr ⟨j, by rw [m2]; trivial, m3⟩)
  refine ⟨fun a o e n => s.frm.keep a o e fun z => ?_, s.frm.lost, ?_⟩
  · obtain ⟨_, j, k1, k2⟩ := ow0 a z
    exact n j k1 k2
  by_cases c : (r.2 && isRef r.1) = true
  · rw [if_pos c] at q
    obtain ⟨p, e, hs, hw, hj, hp⟩ := q
    have m : Hle (mask (MK (fun a => B0 d vs Hm H a ∨ (a = p ∧ ¬ ownA env' σ' p)) env' σ') H') (mask (MK (fun a => B0 d vs Hm H a ∨ a = p) env' σ') H') := fun a o z => by
      obtain ⟨z1, z2⟩ := mask_some.mp z
      refine mask_some.mpr ⟨fun y => ?_, z2⟩
      rcases y with (y | y) | y
      · exact z1 (.inl (.inl y))
      · by_cases hk : ownA env' σ' p
        · exact z1 (.inr (by rw [y]; exact hk))
        · exact z1 (.inl (.inr ⟨y, hk⟩))
      · exact z1 (.inr y)
    refine ⟨mask (MK (fun a => B0 d vs Hm H a ∨ a = p) env' σ') H', mask_le, fun a o z => hr a o (mask_B (fun a z => .inl z) a o z), fun j hj' => ?_, fun hn => ?_, ?_⟩
    · obtain ⟨t, p', t1, k1, k2, k3, k4⟩ := slot j hj'
      obtain ⟨p2, e1, e2, _⟩ := hs.ow j _ k2 trivial
      rw [k3] at e1; cases e1
      exact ⟨p', t1, k1, k4, Own.le (t := t1) m rfl e2⟩
    · rw [hn] at ho; unfold outOf at ho; cases ho; rfl
    · rw [if_pos c]
      refine ⟨p, e, ?_, ?_, hw⟩
      · rcases hp with hp | hp
        · exfalso
          obtain ⟨_, j, k1, k2⟩ := ow0 p hp
          obtain ⟨_, p', t1, m1, m2, m3, _⟩ := slot j k1
          rw [k2] at m1; cases m1
          exact hj j t1 m2 m3
        · exact hp
      · unfold mask; rw [if_pos (.inl (.inr rfl))]
  · rw [if_neg c] at q
    refine ⟨mask (MK (B0 d vs Hm H) env' σ') H', mask_le, hr, fun j hj' => ?_, fun hn => ?_, ?_⟩
    · obtain ⟨t, p', t1, k1, k2, k3, k4⟩ := slot j hj'
      obtain ⟨p2, e1, e2, _⟩ := s.sim.ow j _ k2 trivial
      rw [k3] at e1; cases e1
      exact ⟨p', t1, k1, k4, e2⟩
    · rw [hn] at ho; unfold outOf at ho; cases ho; rfl
    · rw [if_neg c]; exact q
/-- the context of a level -/
def ctx (P : Prog) (wh n : Nat) : Ctx := { io := ioOf P, call := run P wh n, glb := P.glb, wh := wh }
theorem fn_rule {prog : Program} {w : World} {mg : Str → Option Value} {base : Heap} {x qual : Str} {st : Stmt} {fd : FuncData} {N ps : List Str} (Fn : Fun K x qual st (F f) fd) (hd : P.fn f = some d) (S : FnScope N ps (defScope st)) (hns : N.length = d.ns) (hnp : ps.length = d.np) (hN : d.np ≤ d.ns)
    (hb : ∀ (cdv : Value) (A : Around) (outer : List PySem.Env) (s : Shared) (H : Hp) (E : XK), Room n (A.deeper (envOfC qual (defScope st) s.heap.objs.size (F f) cdv)) →
      PSs (cxOf CX0 prog w K mg base N qual (defScope st) (F f) cdv A outer s H E).nox (defBody st) (fS F K (evSs (ctx P wh n) d.body))) :
    FnOk prog w K mg base CX0 (n + 1) (F f) fd ps (spF F K P wh (n + 1) f) := by
  have hio : ioOf P f = d.io := by unfold ioOf; rw [hd]
  have hrun : ∀ ts r fr out, run P wh (n + 1) f ts = .ok r fr out → evFn (ctx P wh n) d ts = .ok r fr out := fun ts r fr out h => by
    unfold run at h; rw [hd] at h; exact h
  refine Fn.ok S (fun vs H Q E h => ?_) (fun cdv A outer s H vs Q E hr h => ?_)
  · obtain ⟨Hm, ts, r, fr, out, hle, ha, hrn, q⟩ := h
    have h1 := hrun _ _ _ _ hrn
    unfold evFn at h1
    split at h1
    · rename_i e; rw [← ha.1, e, hnp]
    · cases h1
  · obtain ⟨Hm, ts, r, fr, out, hle, ha, hrn, q⟩ := h
    have h1 := hrun _ _ _ _ hrn
    rw [hio] at ha q
    refine ⟨_, hb cdv A outer s H E hr, ?_⟩
    unfold evFn at h1
    split at h1
    · rename_i hlen
      have S0 := start_sim (N := N) hns hlen hle ha hN
      have hioT : ∀ j out', outOf (Ev.start d ts) d.io = some out' → d.io = some j → ∃ t, ts[j]? = some t := fun j out' h2 hj => by
        rw [hj] at h2
        unfold outOf at h2
        cases z : (Ev.start d ts).getD j .un with
        | io t =>
          obtain ⟨t', k1, _⟩ := start_get (s := .io t) (fun z => nomatch z) ((getD_of (s := .io t) (fun z => nomatch z)).mp z)
          exact ⟨t', k1⟩
        | _ => simp only [z] at h2; cases h2
      cases he : evSs (ctx P wh n) d.body (Ev.start d ts) with
      | bad => rw [he] at h1; cases h1
      | ex c a env' =>
        rw [he] at h1
        simp only at h1
        split at h1 <;> cases h1
      | ok fl env' =>
        rw [he] at h1
        simp only at h1
        cases hout : outOf env' d.io with
        | none => rw [hout] at h1; cases h1
        | some out1 =>
          rw [hout] at h1
          refine ⟨B0 d vs Hm H, Ev.start d ts, S0, fl, env', he, ?_⟩
          have fin : ∀ {r' : T × Bool} {v : V} {σ' : L2.St} {H' : Hp}, r' = (r, fr) → out1 = out → RtR F K (B0 d vs Hm H) (Ev.start d ts) env' (L2.start N vs) σ' H H' r' v → Q v H' := fun {r' v σ' H'} e1 e2 hR => by
            subst e1; subst e2
            refine q v H' (out_ok ha.1 hle (fun j hj => ?_) hR hout)
            -- the slot was there
            rw [hj] at hout
            unfold outOf at hout
            cases z : env'.getD j .un with
            | io t =>
              have z2 := (getD_of (s := .io t) (fun z => nomatch z)).mp z
              obtain ⟨t0, z3⟩ := hR.1.oi j t z2
              obtain ⟨t', k1, _⟩ := start_get (s := .io t0) (fun z => nomatch z) z3
              exact ⟨t', k1⟩
            | _ => simp only [z] at hout; cases hout
          cases fl with
          | nx =>
            cases h1
            exact fun σ' H' sp => fin rfl rfl ⟨sp, by rw [if_neg (by simp)]; simp [Rp]⟩
          | rt t fr1 =>
            cases h1
            exact fun v σ' H' hR => fin rfl rfl hR
          | bk => cases h1
    · cases h1
end
end Ev

set_option Elab.async false
set_option linter.all false
set_option maxRecDepth 100000
set_option maxHeartbeats 4000000
set_option autoImplicit false
/-! slices with a step; a call of a local name -/
namespace HT
open PySem PySem.Spec PyProof.Rows
section
variable {prog : Program} {w : World} {A : Around} {E : Value → Shared → Prop} {s : Shared}
theorem sliceApplied_stp {sl : Addr} {vl vu vs : Value} {k : Int} {n : Nat} {Q : Int × Int × Nat → Shared → Prop} (hs : s.heap.IsSliceOf sl vl vu vs) (pl : IsPart vl none) (pu : IsPart vu none) (ps : IsPart vs (some k)) (hk : k ≠ 0)
    (h : Q ((Builtin.Slice.sliceAdjust none none k (n : Int)).1, k, Builtin.Slice.slicePlaces (Builtin.Slice.sliceAdjust none none k (n : Int)).1 (Builtin.Slice.sliceAdjust none none k (n : Int)).2 k) s) : wpAny (model prog w) A (Builtin.Slice.sliceApplied (.ref sl) (pure (n : Int))) Q E s := by
  obtain ⟨os, hos, hcs, hds⟩ := id hs
  unfold Builtin.Slice.sliceApplied Builtin.Slice.sliceFields
  refine wpAny_bind (wpAny_bind (wpAny_field hos hds (x := vl) rfl (wpAny_bind (wpAny_field hos hds (x := vu) rfl (wpAny_bind (wpAny_field hos hds (x := vs) rfl (wpAny_pure ?_)))))))
  refine wpAny_bind (slicePart_ ps ?_)
  show wpAny _ _ (if (k == 0) = true then _ else _) _ _ s
  rw [if_neg (by simp [hk])]
  refine wpAny_bind (slicePart_ pl (wpAny_bind (slicePart_ pu (wpAny_bind (wpAny_pure ?_)))))
  exact wpAny_pure h
theorem filterMap_le {α β : Type} (f : α → Option β) : ∀ l : List α, (l.filterMap f).length ≤ l.length
  | [] => Nat.le_refl _
  | a :: l => by
    cases h : f a with
    | none => rw [List.filterMap_cons_none h]; exact Nat.le_succ_of_le (filterMap_le f l)
    | some b => rw [List.filterMap_cons_some h]; exact Nat.succ_le_succ (filterMap_le f l)
theorem stpN_le {k : Int} (hk : k = -1 ∨ k = 2) (n : Nat) : stpN k n ≤ n := by
  rcases hk with rfl | rfl
  · unfold stpN Builtin.Slice.slicePlaces Builtin.Slice.sliceAdjust
    simp
    split <;> omega
  · unfold stpN Builtin.Slice.slicePlaces Builtin.Slice.sliceAdjust
    simp
    split <;> omega
theorem getItem_tuple_stp {t sl : Addr} {items : Array Value} {vl vu vs : Value} {k : Int} {Q : Value → Shared → Prop} (ht : IsTup s.heap t items) (hs : s.heap.IsSliceOf sl vl vu vs) (pl : IsPart vl none) (pu : IsPart vu none) (ps : IsPart vs (some k)) (hk : k = -1 ∨ k = 2)
    (h : Q (.ref s.heap.objs.size) { s with heap := s.heap.push { cls := .type "tuple", data := .seq (stpPick k items.toList).toArray } })
    (hsz : items.size ≤ sizeLine) : wpAny (model prog w) A (getItem (.ref t) (.ref sl)) Q E s := by
  have htake : sizeOk (.seq (stpPick k items.toList).toArray) := by
    show (stpPick k items.toList).toArray.size ≤ sizeLine
    rw [List.size_toArray]
    unfold stpPick
    refine Nat.le_trans (filterMap_le _ _) ?_
    rw [List.length_range, Array.length_toList]
    exact Nat.le_trans (stpN_le hk _) hsz
  obtain ⟨os, hos, hcs, hds⟩ := id hs
  have hTs : s.TypeIs (.ref sl) "slice" := ⟨os, hos, hcs⟩
  unfold getItem
  try with_reducible refine wpAny_holding ?_
  first | refine wpAny_bind (wpAny_pure ?_) | skip
  refine wpAny_bind (wpAny_sequenceKey ht.typeIs (by decide) ?_)
  refine wpAny_bind (wpAny_callSpecial?_slot (name := Str.ofString "__getitem__") ht.typeIs PyProof.Rows.slot_tuple_getitem
    (wpAny_call_entry PyProof.Rows.slot_tuple_getitem ht.typeIs entry_tuple_getitem ?_ (args_tuple_getitem _ _)))
  show wpAny _ _ (Builtin.Tuple.tupleItemsOf (.ref t) >>= _) _ _ s
  refine wpAny_bind (tupleItemsOf_ ht ?_)
  refine wpAny_bind (wpAny_typeOf hTs ?_)
  rw [if_pos (by decide)]
  refine wpAny_bind (sliceApplied_stp hs pl pu ps (by rcases hk with rfl | rfl <;> decide) ?_)
  show wpAny _ _ (if ((Builtin.Slice.sliceAdjust none none k (items.size : Int)).1 == 0 && k == 1 && stpN k items.size == items.size) = true then _ else _) _ _ s
  rw [if_neg (by rcases hk with rfl | rfl <;> simp)]
  have e : ((List.range (Builtin.Slice.slicePlaces (Builtin.Slice.sliceAdjust none none k (items.size : Int)).1 (Builtin.Slice.sliceAdjust none none k (items.size : Int)).2 k)).filterMap fun (m : Nat) => items[((Builtin.Slice.sliceAdjust none none k (items.size : Int)).1 + (m : Int) * k).toNat]?).toArray = (stpPick k items.toList).toArray := by
    unfold stpPick
    rw [Array.length_toList]
    show _ = ((List.range (Builtin.Slice.slicePlaces (Builtin.Slice.sliceAdjust none none k (items.size : Int)).1 (Builtin.Slice.sliceAdjust none none k (items.size : Int)).2 k)).filterMap _).toArray
    congr 1
    congr 1
    funext m
    unfold stpI
    rw [Array.getElem?_toList]
  rw [e]
  first
    | exact wpAny_bind (m := Builtin.Tuple.tupleExact _) (wpAny_newObj_type (wpAny_pure ⟨_, rfl, wpAny_pure h⟩) htake)
    | exact wpAny_bind (m := Builtin.Tuple.tupleExact _) (wpAny_newObj_type (wpAny_bind (wpAny_pure (wpAny_pure ⟨_, rfl, wpAny_pure h⟩))) htake)
    | exact wpAny_bind (wpAny_bind (m := Builtin.Tuple.tupleExact _) (wpAny_newObj_type (wpAny_pure (wpAny_pure ⟨_, rfl, wpAny_pure h⟩)) htake))
    | exact wpAny_bind (wpAny_bind (m := Builtin.Tuple.tupleExact _) (wpAny_newObj_type (wpAny_pure ⟨_, rfl, wpAny_pure h⟩) htake))
theorem filterMap_same {α β : Type} {f g : α → Option β} : ∀ {l : List α}, (∀ a ∈ l, f a = g a) → l.filterMap f = l.filterMap g
  | [], _ => rfl
  | a :: l, h => by
    rw [List.filterMap_cons, List.filterMap_cons, h a List.mem_cons_self, filterMap_same fun b m => h b (List.mem_cons_of_mem _ m)]
theorem stp_rev {α : Type} (xs : List α) : stpPick (-1) xs = xs.reverse := by
  have hn : stpN (-1) xs.length = xs.length := by
    unfold stpN Builtin.Slice.slicePlaces Builtin.Slice.sliceAdjust
    simp
    split <;> omega
  unfold stpPick
  rw [hn]
  refine List.ext_getElem? fun i => ?_
  have e : ((List.range xs.length).filterMap fun m => xs[stpI (-1) xs.length m]?) = (List.range xs.length).filterMap fun m => xs.reverse[m]? := by
    refine filterMap_same fun m hm => ?_
    have hm := List.mem_range.mp hm
    rw [List.getElem?_reverse hm]
    congr 1
    unfold stpI Builtin.Slice.sliceAdjust
    simp
    omega
  rw [e]
  have g : ∀ (l : List α), ((List.range l.length).filterMap fun m => l[m]?) = l := fun l => by
    have : ((List.range l.length).filterMap fun m => l[m]?) = ((List.range l.length).map fun m => 0 + m).filterMap (l.toArray[·]?) := by
      rw [List.filterMap_map]
      congr 1
      funext m
      simp
    rw [this, pick_run l.toArray 0 l.length]
    simp
  have := g xs.reverse
  rw [List.length_reverse] at this
  rw [this]
end
end HT

namespace Ev
open PySem PySem.Spec PyProof.Rows L2
section
variable {X : Cx} {F : Nat → Addr} {a : Expr} {pos : Pos}
/-- the step is an int that is written -/
structure StpE (X : Cx) (st : Expr) (k : Int) : Prop where
  run : ∀ (pins : List (Addr × Obj)) (s : Shared) (σ : L2.St) (H : Hp), Inv X pins σ H s → wpAny (model X.prog X.w) X.A (evalPart (some st) X.env) (fun u s' => ∃ H', Inv X pins σ H' s' ∧ IsPart u (some k) ∧ H' = H) X.xe s
theorem stpM1 {k : Nat} {p1 p2 : Pos} : StpE X (.UnaryOp .USub (.Constant (.int 1) k p1) p2) (-1) := ⟨fun pins s σ H I => by
  have hst : PO X (some (.UnaryOp .USub (.Constant (.int 1) k p1) p2)) (tPart (tUn (rU fun i => .int (-i)) (tC (.int 1)))) := po_some (pe_un un_neg pe_int)
  exact thn (hst.run pins s σ H (fun o H4 => o = some (-1) ∧ H4 = H) I ⟨1, rfl, -1, rfl, rfl, rfl⟩) fun vs s4 ⟨o, H4, I4, ps, eo, e4⟩ => ⟨H4, I4, eo ▸ ps, e4⟩⟩
theorem stpP2 {k : Nat} {p1 : Pos} : StpE X (.Constant (.int 2) k p1) 2 := ⟨fun pins s σ H I => by
  have hst : PO X (some (.Constant (.int 2) k p1)) (tPart (tC (.int 2))) := po_some pe_int
  exact thn (hst.run pins s σ H (fun o H4 => o = some 2 ∧ H4 = H) I ⟨2, rfl, rfl, rfl⟩) fun vs s4 ⟨o, H4, I4, ps, eo, e4⟩ => ⟨H4, I4, eo ▸ ps, e4⟩⟩
def tStp (K : PySem.W.Frag) (te : TE) (k : Int) : TE := fun σ H Q => te σ H fun x H1 => ∃ a xs, x = .ref a ∧ ((SqL K H1 a xs ∧ k = -1 ∧ ∀ p, H1 p = none → Q (.ref p) (upd H1 p (.lst xs.reverse))) ∨
  (SqT K H1 a xs ∧ (k = -1 ∨ k = 2) ∧ ∀ p, H1 p = none → Q (.ref p) (upd H1 p (.tup (HT.stpPick k xs)))))
theorem vals_pick {k : Int} {xs : List V} {us : List Value} (r : Vals xs us) : Vals (HT.stpPick k xs) (HT.stpPick k us) := by
  unfold HT.stpPick
  rw [r.length]
  generalize HT.stpN k us.length = n
  generalize HT.stpI k us.length = f
  generalize List.range n = l
  induction l with
  | nil => exact .nil
  | cons m l ih =>
    cases q : xs[f m]? with
    | none =>
      have q2 : us[f m]? = none := by
        rw [List.getElem?_eq_none_iff] at q ⊢
        rw [← Vals.length r]; exact q
      simp only [List.filterMap_cons, q, q2]
      exact ih
    | some x =>
      obtain ⟨u, q2, r⟩ := L2.Vals.get r q
      simp only [List.filterMap_cons, q, q2]
      exact .cons r ih
theorem pe_stp {te : TE} {st : Expr} {k : Int} {p3 : Pos} (he : PE X a te) (hst : StpE X st k) : PE X (.Subscript a (.Slice none none (some st) p3) pos) (tStp X.K te k) := by
  refine ⟨fun pins s σ H Q I h => ?_⟩
  refine Subscript_ (thn (he.run pins s σ H _ I h) fun v s1 ⟨x, H1, I1, r1, q1⟩ => ?_)
  obtain ⟨b, xs, ex, q⟩ := q1
  subst ex
  cases r1
  refine wpAny_Slice (thn (po_none.run pins s1 σ H1 (fun o H2 => o = none ∧ H2 = H1) I1 ⟨rfl, rfl⟩) fun vl s2 ⟨l, H2, I2, pl, el, e2⟩ => ?_)
  subst el e2
  refine thn (po_none.run pins s2 σ H2 (fun o H3 => o = none ∧ H3 = H2) I2 ⟨rfl, rfl⟩) fun vu s3 ⟨u, H3, I3, pu, eu, e3⟩ => ?_
  subst eu e3
  refine thn (hst.run pins s3 σ H3 I3) fun vs s4 ⟨H4, I4, ps, e4⟩ => ?_
  subst e4
  have I5 : Inv X pins σ H4 { s4 with heap := s4.heap.push { cls := .type "slice", data := .fields #[vl, vu, vs] } } := I4.kept (t' := s4.toks) fun b ob q => Heap.get?_push_of_some _ q
  show wpAny (model X.prog X.w) X.A (subscriptTail a (.Slice none none (some st) p3) (.ref b) (.ref s4.heap.objs.size)) (EP X pins σ Q) X.xe { s4 with heap := s4.heap.push { cls := .type "slice", data := .fields #[vl, vu, vs] } }
  rcases q with ⟨hx, rfl, q⟩ | ⟨hx, hk, q⟩
  · obtain ⟨its, r, ht, hz⟩ := I5.list hx
    have hlen := r.length
    refine tail_any (ops := [.ref b, .ref s4.heap.objs.size]) ht.isList.typeIs (PySem.slot_list_getitem.lookup) ?_ (by with_unfolding_all rfl)
    refine wpAny_getItem_list_slice ht.isList (Heap.IsSliceOf.new _ vl vu vs) pl pu ps (by decide) ?_ (by rw [List.size_toArray]; omega)
    rw [PySem.W.krv_pick]
    refine ⟨.ref _, _, I5.laid (t' := s4.toks) (o := .lst xs.reverse) (fun b ob q => Heap.get?_push_of_some _ q) (Nat.le_refl _) ?_, rfl, q _ (I5.hok.fresh (Nat.le_refl _))⟩
    exact ⟨by rw [List.length_reverse]; exact hz, _, 0, r.reverse, Heap.get?_push_size _ rfl⟩
  · obtain ⟨its, r, ht, hz⟩ := I5.tuple hx
    have hlen := r.length
    refine tail_any (ops := [.ref b, .ref s4.heap.objs.size]) ht.typeIs PyProof.Rows.slot_tuple_getitem.lookup ?_ (by with_unfolding_all rfl)
    refine HT.getItem_tuple_stp ht (Heap.IsSliceOf.new _ vl vu vs) pl pu ps hk ?_ (by rw [List.size_toArray]; omega)
    refine ⟨.ref _, _, I5.laid (t' := s4.toks) (o := .tup (HT.stpPick k xs)) (fun b ob q => Heap.get?_push_of_some _ q) (Nat.le_refl _) ?_, rfl, q _ (I5.hok.fresh (Nat.le_refl _))⟩
    refine ⟨?_, HT.stpPick k its, vals_pick r, ?_⟩
    · unfold HT.stpPick
      refine Nat.le_trans (HT.filterMap_le _ _) ?_
      rw [List.length_range]
      exact Nat.le_trans (HT.stpN_le hk _) hz
    · exact IsTup.new _ _
variable {C : Ctx} {ma : M Opd} {Hm : Hp}
theorem RpL.pick {k : Int} {ts : List T} {vs : List V} (r : RpL F X.K Hm ts vs) : RpL F X.K Hm (HT.stpPick k ts) (HT.stpPick k vs) := by
  unfold HT.stpPick
  rw [r.len]
  generalize HT.stpN k vs.length = n
  generalize HT.stpI k vs.length = f
  generalize List.range n = l
  induction l with
  | nil => simp [RpL]
  | cons m l ih =>
    cases q : ts[f m]? with
    | none =>
      have q2 : vs[f m]? = none := by
        rw [List.getElem?_eq_none_iff] at q ⊢
        rw [← r.len]; exact q
      simp only [List.filterMap_cons, q, q2]
      exact ih
    | some x =>
      obtain ⟨u, q2, r2⟩ := r.get q
      simp only [List.filterMap_cons, q, q2, RpL]
      exact ⟨_, _, rfl, r2, ih⟩
theorem pick_len {α : Type} {k : Int} (hk : k = -1 ∨ k = 2) (xs : List α) : (HT.stpPick k xs).length ≤ xs.length := by
  unfold HT.stpPick
  refine Nat.le_trans (HT.filterMap_le _ _) ?_
  rw [List.length_range]
  exact HT.stpN_le hk _
theorem ee_stp {st : Expr} {k : Int} {p2 : Pos} (ha : PE X a (fO F X.K ma)) (hs : StpE X st k) :
    PE X (.Subscript a (.Slice none none (some st) p2) pos) (fE F X.K (do let x ← ma; let x ← res x; lift (stpF k x))) := by
  refine (pe_stp ha hs).imp fun σ H Q ⟨B, env, S, r, env', h0, q⟩ => ?_
  obtain ⟨x, env1, a1, b1⟩ := bind_ok.mp h0
  obtain ⟨t, env2, a2, b2⟩ := bind_ok.mp b1
  obtain ⟨c3, rfl⟩ := lift_ok.mp b2
  refine one S a1 fun v H1 B1 f1 l1 e1 S1 r1 => ?_
  obtain ⟨rfl, vx⟩ := r1.vr S1 a2
  unfold stpF at c3
  split at c3
  · rename_i xs
    split at c3
    · rename_i hk
      cases c3
      have vx' : Rp F X.K (mask (MK B1 _ σ) H1) (.tup xs) v := vx
      simp only [Rp] at vx'
      obtain ⟨b, vs, rfl, h1, h2, h3⟩ := vx'
      exact ⟨b, vs, rfl, .inr ⟨.inl (.inl (mask_le _ _ h1)), hk, fun p hp => q _ _ ((NewR.tup h3.pick mask_le hp (Nat.le_trans (pick_len hk _) h2)).po S S1 e1 f1 l1)⟩⟩
    · cases c3
  · rename_i xs
    split at c3
    · rename_i hk
      cases c3
      obtain ⟨b, vs, rfl, h1, h2, h3⟩ := vx
      refine ⟨b, vs, rfl, .inl ⟨.inl (.inl h1), hk, fun p hp => q _ _ ((NewR.lst (vs := vs.reverse) ?_ hp (by rw [List.length_reverse]; exact h2)).po S S1 e1 f1 l1)⟩⟩
      have h4 := h3.pick (k := -1)
      rw [HT.stp_rev, HT.stp_rev] at h4
      exact h4
    · cases c3
  · cases c3
/-- len(set(a list of ints)) -/
def tLset (K : PySem.W.Frag) (ta : TE) : TE := fun σ H Q => ta σ H fun x H1 => ∃ (l : Addr) (ns : List Int), x = .ref l ∧ SqL K H1 l (ns.map V.int) ∧ ns.length ≤ 4000 ∧ Q (.int (ddupI ns).length) H1
theorem first_all (ns : List Int) : firstMet (fun i => ns.getD i 0) ns.length = ddupI ns := by
  unfold firstMet ddupI
  have e : (List.range ns.length).map (fun i => ns.getD i 0) = ns := by
    refine List.ext_getElem (by simp) fun i h1 h2 => ?_
    rw [List.getElem_map, List.getElem_range, List.getD_eq_getElem?_getD, List.getElem?_eq_getElem h2]; rfl
  rw [e]; rfl
theorem pe_lset {ta : TE} {p p2 q : Pos} (hg : Gl X "len") (hm : X.mg "len" = none) (hg2 : Gl X "set") (hm2 : X.mg "set" = none) (ha : PE X a ta) (hc : X.calm = true)
    (na : starEach [a] X.env = (false, eval a X.env) :: starEach [] X.env) : PE X (.Call (.Name "len" p) [.Call (.Name "set" p2) [a] [] q] [] pos) (tLset X.K ta) := by
  refine ⟨fun pins s σ H Q I h => ?_⟩
  refine Call_ (ld_blt I hg hm boot_len ?_)
  refine PyProof.Rows.callWith_builtin1 (PyProof.Rows.args_cons ?_ rfl) rfl rfl
  refine Call_ (ld_blt I hg2 hm2 boot_set ?_)
  refine PyProof.Rows.callWith_type1 (PyProof.Rows.args_cons (thn (ha.run pins s σ H _ I h) fun v s1 ⟨x, H1, I1, r1, q1⟩ => PyProof.Rows.args_nil ?_) na) na rfl
  obtain ⟨l, ns, rfl, hq, hl, q1⟩ := q1
  cases r1
  obtain ⟨its, r, pl, hz⟩ := I1.list hq
  have hlen : its.toArray.size = ns.length := by rw [List.size_toArray, ← r.length, List.length_map]
  refine call_set_list (I1.ok.hd hc) pl.isList (by simpa using RZ.intsAre_vals r) (by rw [hlen]; unfold scanBound; omega) fun h' tk hS hk => ?_
  refine PyProof.Rows.args_nil ?_
  rw [hlen, first_all] at hS
  have hdl : (ddupI ns).length ≤ ns.length := by rw [← first_all]; exact firstMet_length_le _ _
  obtain ⟨o, es, ep, t, ho, hex, hd, _, _, _, hf, hn⟩ := hS
  have I2 : Inv X pins σ H1 { s1 with heap := h', toks := tk } := I1.kept fun b o e => hk b o (Heap.lt_size e) e
  exact call_len_set ho hex hd hf (by rw [hn] <;> omega) ⟨.int (ddupI ns).length, H1, I2.tok _, ⟨_, by rw [hn]⟩, q1⟩
theorem ee_lset {p p2 q : Pos} (hg : Gl X "len") (hm : X.mg "len" = none) (hg2 : Gl X "set") (hm2 : X.mg "set" = none) (hc : X.calm = true) (hs : ∀ x p, a ≠ .Starred x p) (ha : PE X a (fO F X.K ma)) :
    PE X (.Call (.Name "len" p) [.Call (.Name "set" p2) [a] [] q] [] pos) (fE F X.K (do let x ← ma; let x ← res x; lift (lsetF x))) := by
  refine (pe_lset hg hm hg2 hm2 ha hc (starEach_cons hs)).imp fun σ H Q ⟨B, env, S, r, env', h0, q⟩ => ?_
  obtain ⟨x, env1, a1, b1⟩ := bind_ok.mp h0
  obtain ⟨t, env2, a2, b2⟩ := bind_ok.mp b1
  obtain ⟨c3, rfl⟩ := lift_ok.mp b2
  refine one S a1 fun v H1 B1 f1 l1 e1 S1 r1 => ?_
  obtain ⟨rfl, vx⟩ := r1.vr S1 a2
  unfold lsetF at c3
  split at c3
  · rename_i xs
    obtain ⟨ns, h1, h2⟩ := Option.bind_eq_some_iff.mp c3
    split at h2
    · rename_i hl
      cases h2
      obtain ⟨b, vs, rfl, k1, k2, k3⟩ := vx
      have hv := ints_vals h1 k3
      subst hv
      exact ⟨b, ns, rfl, .inl (.inl k1), hl, q _ _ ((NewR.flat (Hm := mask (MK B1 env2 σ) H1) (by simp [Rp]) mask_le rfl).po S S1 e1 f1 l1)⟩
    · cases h2
  · cases c3
variable {P : Prog} {wh n : Nat} {e : Expr} {kw : Nat → Nat → List Str → List Nat → Bool}
/-- a call of a local name that holds a def -/
theorem ee_callv {ms : M (List Opd)} {i : Nat} {fs : List Nat} {x : Str} {es : List Expr} {p : Pos} (D : ∀ f, fs.contains f = true → ∃ xn ps, Fd X.prog X.w X.K X.mg X.base F P wh kw n f xn ps) (hr : Room n X.A) (hN : X.N[i]? = some x) (hvis : Vis X.env.scope x)
    (hdb : (x == ("__debug__" : Str)) = false) (hcd : (x == ("__classdict__" : Str)) = false) (hio : C.io = ioOf P) (hcall : C.call = run P wh n)
    (hv : ∀ env os env', ms env = .ok os env' → ∀ (i : Nat) (o : Opd), os[i]? = some o → ∃ t, o = .val t) (hs : ∀ e' ∈ e :: es, ∀ x p, e' ≠ Expr.Starred x p) (ha : PA X (e :: es) (fOs F X.K ms)) :
    PE X (.Call (.Name x p) (e :: es) [] pos) (fE F X.K (do let z ← peek i; let f ← lift (fnOf z); if (C.io f).isSome || !fs.contains f then fail else do let os ← ms; doCall C f os)) := by
  refine ⟨fun pins s σ H Q I h => ?_⟩
  obtain ⟨B, env, S, r, env', h0, q⟩ := h
  obtain ⟨z, env1, a1, b1⟩ := bind_ok.mp h0
  obtain ⟨f, env2, a2, b2⟩ := bind_ok.mp b1
  obtain ⟨c2, rfl⟩ := lift_ok.mp a2
  obtain ⟨rfl, sl, k1, k2, k3⟩ := peek_ok.mp a1
  have hz : z = .fn f := by
    unfold fnOf at c2
    split at c2
    · cases c2; rfl
    · cases c2
  subst hz
  have hσ : σ[i]? = some (some (.ref (F f))) := by
    cases sl with
    | un => exact absurd rfl k2
    | sh t =>
      obtain ⟨v, e1, e2⟩ := S.sh i t k1
      have : t = .fn f := k3
      subst this
      simp only [Rp] at e2
      rw [e1, e2]
    | ow t =>
      obtain ⟨a, e1, e2, _⟩ := S.ow i _ k1 trivial
      rw [k3] at e2
      exact e2.elim
    | io t =>
      obtain ⟨a, e1, e2, _⟩ := S.ow i _ k1 trivial
      rw [k3] at e2
      exact e2.elim
  split at b2
  · cases b2
  · rename_i hc
    rw [Bool.or_eq_true, not_or] at hc
    have hf : fs.contains f = true := by simpa using hc.2
    obtain ⟨xn, ps, Df⟩ := D f hf
    obtain ⟨fd, Fk, hm, hk, hb, _⟩ := Df.ex
    refine (pe_callL (i := i) (f := F f) (dvs := []) (E := fun _ _ _ => False) Fk hr hN hvis hk hb .nil pass0 ha hdb hcd (starEach_cons (hs e List.mem_cons_self)) (star_any fun e' m => hs e' (List.mem_cons_of_mem _ m))).run pins s σ H Q I ⟨hσ, ?_⟩
    have k := call_fin (F := F) (K := X.K) (f := f) (Q := Q) hio hcall (fun env os env' h i o z _ => hv env os env' h i o z) ⟨B, _, S, r, env', b2, q⟩
    simp only [List.append_nil]
    exact k
end
end Ev

set_option Elab.async false
set_option linter.all false
set_option maxRecDepth 100000
set_option autoImplicit false
/-! the checker: one's own syntax against the text -/
namespace Ev
open PySem PySem.Spec PyProof.Rows L2
/-! ### views -/
def vName : Expr → Option (Str × Pos) | .Name x p => some (x, p) | _ => none
def vConst : Expr → Option (Const × Nat × Pos) | .Constant k n p => some (k, n, p) | _ => none
def vBin : Expr → Option (Expr × Operator × Expr × Pos) | .BinOp a o b p => some (a, o, b, p) | _ => none
def vUn : Expr → Option (UnaryOp × Expr × Pos) | .UnaryOp o a p => some (o, a, p) | _ => none
def vBool : Expr → Option (BoolOp × Expr × Expr × List Expr × Pos) | .BoolOp o (x :: y :: r) p => some (o, x, y, r, p) | _ => none
def vCmp : Expr → Option (Expr × CmpOp × Expr × Pos) | .Compare a [o] [b] p => some (a, o, b, p) | _ => none
def vChn : Expr → Option (Expr × CmpOp × CmpOp × Expr × Expr × Pos) | .Compare a [o, o'] [b, d] p => some (a, o, o', b, d, p) | _ => none
def vIf : Expr → Option (Expr × Expr × Expr × Pos) | .IfExp a b d p => some (a, b, d, p) | _ => none
def vTup : Expr → Option (List Expr × Nat × Pos) | .Tuple es k p => some (es, k, p) | _ => none
def vLst : Expr → Option (List Expr × Pos) | .List es p => some (es, p) | _ => none
def vSub : Expr → Option (Expr × Expr × Pos) | .Subscript a b p => some (a, b, p) | _ => none
def vSlc : Expr → Option (Option Expr × Option Expr × Pos) | .Slice a b none p => some (a, b, p) | _ => none
def vStp : Expr → Option (Expr × Pos) | .Slice none none (some st) p => some (st, p) | _ => none
/-- a call by a name -/
def vCall : Expr → Option (Str × Pos × List Expr × List Keyword × Pos) | .Call (.Name x p) es kws q => some (x, p, es, kws, q) | _ => none
/-- a method call -/
def vMeth : Expr → Option (Expr × Str × Pos × List Expr × Pos) | .Call (.Attribute o m p) es [] q => some (o, m, p, es, q) | _ => none
def vComp : Expr → Option (Expr × Expr × Expr × List Expr × Scope × Pos) | .ListComp e [⟨t, i, fs, n⟩] s p => if n = 0 then some (e, t, i, fs, s, p) else none | _ => none
def vComp2 : Expr → Option (Expr × (Expr × Expr × List Expr) × (Expr × Expr × List Expr) × Scope × Pos) | .ListComp e [⟨t, i, fs, n⟩, ⟨t1, i1, fs1, n1⟩] s p => if n = 0 ∧ n1 = 0 then some (e, (t, i, fs), (t1, i1, fs1), s, p) else none | _ => none
section
variable {ex : Expr}
theorem vName_eq {x : Str} {p : Pos} (h : vName ex = some (x, p)) : ex = .Name x p := by unfold vName at h; split at h <;> simp_all
theorem vConst_eq {x : Const} {n : Nat} {p : Pos} (h : vConst ex = some (x, n, p)) : ex = .Constant x n p := by unfold vConst at h; split at h <;> simp_all
theorem vBin_eq {a b : Expr} {o : Operator} {p : Pos} (h : vBin ex = some (a, o, b, p)) : ex = .BinOp a o b p := by unfold vBin at h; split at h <;> simp_all
theorem vUn_eq {a : Expr} {o : UnaryOp} {p : Pos} (h : vUn ex = some (o, a, p)) : ex = .UnaryOp o a p := by unfold vUn at h; split at h <;> simp_all
theorem vBool_eq {x y : Expr} {r : List Expr} {o : BoolOp} {p : Pos} (h : vBool ex = some (o, x, y, r, p)) : ex = .BoolOp o (x :: y :: r) p := by unfold vBool at h; split at h <;> simp_all
theorem vCmp_eq {a b : Expr} {o : CmpOp} {p : Pos} (h : vCmp ex = some (a, o, b, p)) : ex = .Compare a [o] [b] p := by unfold vCmp at h; split at h <;> simp_all
theorem vChn_eq {a b d : Expr} {o o' : CmpOp} {p : Pos} (h : vChn ex = some (a, o, o', b, d, p)) : ex = .Compare a [o, o'] [b, d] p := by unfold vChn at h; split at h <;> simp_all
theorem vIf_eq {a b d : Expr} {p : Pos} (h : vIf ex = some (a, b, d, p)) : ex = .IfExp a b d p := by unfold vIf at h; split at h <;> simp_all
theorem vTup_eq {es : List Expr} {k : Nat} {p : Pos} (h : vTup ex = some (es, k, p)) : ex = .Tuple es k p := by unfold vTup at h; split at h <;> simp_all
theorem vLst_eq {es : List Expr} {p : Pos} (h : vLst ex = some (es, p)) : ex = .List es p := by unfold vLst at h; split at h <;> simp_all
theorem vSub_eq {a b : Expr} {p : Pos} (h : vSub ex = some (a, b, p)) : ex = .Subscript a b p := by unfold vSub at h; split at h <;> simp_all
theorem vSlc_eq {a b : Option Expr} {p : Pos} (h : vSlc ex = some (a, b, p)) : ex = .Slice a b none p := by unfold vSlc at h; split at h <;> simp_all
theorem vStp_eq {a : Expr} {p : Pos} (h : vStp ex = some (a, p)) : ex = .Slice none none (some a) p := by unfold vStp at h; split at h <;> simp_all
theorem vCall_eq {x : Str} {p q : Pos} {es : List Expr} {kws : List Keyword} (h : vCall ex = some (x, p, es, kws, q)) : ex = .Call (.Name x p) es kws q := by unfold vCall at h; split at h <;> simp_all
theorem vMeth_eq {o : Expr} {m : Str} {p q : Pos} {es : List Expr} (h : vMeth ex = some (o, m, p, es, q)) : ex = .Call (.Attribute o m p) es [] q := by unfold vMeth at h; split at h <;> simp_all
theorem vComp_eq {e t i : Expr} {fs : List Expr} {s : Scope} {p : Pos} (h : vComp ex = some (e, t, i, fs, s, p)) : ex = .ListComp e [⟨t, i, fs, 0⟩] s p := by unfold vComp at h; split at h <;> simp_all
theorem vComp2_eq {e t i t1 i1 : Expr} {fs fs1 : List Expr} {s : Scope} {p : Pos} (h : vComp2 ex = some (e, (t, i, fs), (t1, i1, fs1), s, p)) : ex = .ListComp e [⟨t, i, fs, 0⟩, ⟨t1, i1, fs1, 0⟩] s p := by unfold vComp2 at h; split at h <;> simp_all
end
/-! ### what is known of the law's text -/
structure GC where
  fname : Nat → Str
  ps : Nat → List Str
  known : Nat → Bool
  gname : Nat → Str
  gknown : Nat → Bool
  blt : List Str
  kw : Nat → Nat → List Str → List Nat → Bool
  io : Nat → Option Nat
structure CC where
  N : List Str
  sc : Scope
  fn : Str → Bool
def isVis : Option NameKind → Bool | some .local => true | some .cell => true | some .free => true | _ => false
def isLoc : Option NameKind → Bool | some .local => true | some .cell => true | _ => false
def isL : Option NameKind → Bool | some .local => true | _ => false
def isGl : Option NameKind → Bool | some .globalImplicit => true | _ => false
def ckVar (c : CC) (i : Nat) (x : Str) : Bool := decide (c.N[i]? = some x) && isVis (c.sc.names.lookup x) && !(x == ("__debug__" : Str)) && !(x == ("__classdict__" : Str))
def ckGl (c : CC) (x : Str) : Bool := isGl (c.sc.names.lookup x) && !(x == ("__debug__" : Str))
def ckBlt (G : GC) (c : CC) (x : Str) : Bool := ckGl c x && G.blt.contains x
def ckConst : T → Const → Bool
  | .non, .none => true
  | .bl a, .bool b => a == b
  | .int a, .int b => a == b
  | .str a, .str b => decide (a = b)
  | _, _ => false
def ckFnK : T → Option Nat
  | .fn f => some f
  | _ => none
def owOf (N : List Str) (own : List Nat) : List (Str × Nat) := own.map fun i => (N.getD i (PySem.Str.ofString ""), i)
def kwNames (kws : List Keyword) : List Str := kws.filterMap (·.arg)
def bifNm : Bif → Str
  | .len => "len" | .tuple => "tuple" | .list => "list" | .sorted => "sorted" | .sum => "sum" | .max => "max" | .min => "min" | .abs => "abs" | .int => "int" | .all => "all" | .any => "any"
  | .divmod => "divmod" | .gcd => "gcd" | .set => "set" | .str => "str" | .max2 => "max" | .min2 => "min"
def bifAr : Bif → Nat
  | .divmod => 2 | .max2 => 2 | .min2 => 2 | .gcd => 0 | .set => 0 | .str => 0 | _ => 1
/-- the types of an isinstance -/
def ckTys : List Ty → List Expr → Bool
  | [], [] => true
  | y :: ys, e :: es => (match vName e with | some (x, _) => decide (x = PySem.Str.ofString (tyNm y)) | none => false) && ckTys ys es
  | _, _ => false
def inner (c : CC) (scope : Scope) : CC := { c with sc := relS scope c.sc, fn := fun x => scope.names.lookup x == some .cell }
def subOwn (own : Option (List Nat)) (i : Nat) : Bool := match own with
  | none => true
  | some l => l.contains i
/-- a written step -/
def ckStp (k : Int) (st : Expr) : Bool := match vUn st with
  | some (o, a, _) => decide (o = .USub) && decide (k = -1) && (match vConst a with | some (z, _, _) => (match z with | .int i => i == 1 | _ => false) | none => false)
  | none => match vConst st with
    | some (z, _, _) => decide (k = 2) && (match z with | .int i => i == 2 | _ => false)
    | none => false
mutual
def ckE (G : GC) (c : CC) : Ex → Expr → Bool
  | .var i, ex => match vName ex with
    | some (x, _) => ckVar c i x
    | none => false
  | .k t, ex => match ckFnK t with
    | some f => match vName ex with
      | some (x, _) => ckGl c x && decide (x = G.fname f) && G.known f
      | none => false
    | none => match vConst ex with
      | some (k, _, _) => ckConst t k
      | none => false
  | .glb g, ex => match vName ex with
    | some (x, _) => ckGl c x && decide (x = G.gname g) && G.gknown g
    | none => false
  | .bin o a b, ex => match vBin ex with
    | some (a', o', b', _) => decide (o' = binOp o) && ckE G c a a' && ckE G c b b'
    | none => false
  | .neg a, ex => match vUn ex with
    | some (o, a', _) => decide (o = .USub) && ckE G c a a'
    | none => false
  | .not a, ex => match vUn ex with
    | some (o, a', _) => decide (o = .Not) && ckE G c a a'
    | none => false
  | .and a b, ex => match vBool ex with
    | some (o, x, y, r, p) => decide (o = .And) && ckE G c a x && ckE G c b (if r.isEmpty then y else .BoolOp .And (y :: r) p)
    | none => false
  | .or a b, ex => match vBool ex with
    | some (o, x, y, r, p) => decide (o = .Or) && ckE G c a x && ckE G c b (if r.isEmpty then y else .BoolOp .Or (y :: r) p)
    | none => false
  | .cmp o a b, ex => match vCmp ex with
    | some (a', o', b', _) => decide (o' = cmpOp o) && !behindInMarks o' b' && ckE G c a a' && ckE G c b b'
    | none => false
  | .chn o o2 a b d, ex => match vChn ex with
    | some (a', p, p2, b', d', _) => decide (p = cmpOp o) && decide (p2 = cmpOp o2) && !lastMarks [p, p2] [b', d'] && ckE G c a a' && ckE G c b b' && ckE G c d d'
    | none => false
  | .ite t a b, ex => match vIf ex with
    | some (t', a', b', _) => ckE G c t t' && ckE G c a a' && ckE G c b b'
    | none => false
  | .tup es, ex => match vTup ex with
    | some (es', _, _) => decide (es.len ≤ 1000) && ckEs G c es es'
    | none => false
  | .lst es, ex => match vLst ex with
    | some (es', _) => decide (es.len ≤ 1000) && ckEs G c es es'
    | none => false
  | .idx a b, ex => match vSub ex with
    | some (a', b', _) => ckE G c a a' && ckE G c b b'
    | none => false
  | .slc a lo hi, ex => match vSub ex with
    | some (a', s, _) => match vSlc s with
      | some (lo', hi', _) => ckE G c a a' && ckO G c lo lo' && ckO G c hi hi'
      | none => false
    | none => false
  | .call f es, ex => match vCall ex with
    | some (x, _, es', kws, _) => kws.isEmpty && ckGl c x && decide (x = G.fname f) && G.known f && ckEs G c es es'
    | none => false
  | .callk f es ks perm, ex => match vCall ex with
    | some (x, _, es', kws, _) => ckGl c x && decide (x = G.fname f) && G.known f && (G.io f).isNone && kws.all (fun k => k.arg.isSome) && G.kw f es.len (kwNames kws) perm && ckEs G c es es' && ckKs G c ks kws
    | none => false
  | .bif b es, ex => match vCall ex with
    | some (x, _, es', kws, _) => kws.isEmpty && ckBlt G c x && decide (x = bifNm b) && decide (es.len = bifAr b ∧ 0 < es.len) && ckEs G c es es'
    | none => false
  | .isi a ts, ex => match vCall ex with
    | some (x, _, es', kws, _) => kws.isEmpty && ckBlt G c x && decide (x = ("isinstance" : Str)) && decide (ts.length ≤ 9) && (ts.all fun y => ckBlt G c (PySem.Str.ofString (tyNm y))) && (match es' with
      | [a', t'] => ckE G c a a' && (match vTup t' with
        | some (us, _, _) => ckTys ts us
        | none => decide (ts.length = 1) && ckTys ts [t'])
      | _ => false)
    | none => false
  | .lrng tp r, ex => match vCall ex with
    | some (x, _, es', kws, _) => kws.isEmpty && ckBlt G c x && decide (x = (if tp then ("tuple" : Str) else "list")) && (match es' with
      | [it] => ckRng G c r it
      | _ => false)
    | none => false
  | .comp elt tg it ifs own, ex => match vComp ex with
    | some (elt', tg', it', ifs', scope, _) => blkC c.N c.sc scope (owOf c.N own) && ckIt G c it tg' it' && ckG G (inner c scope) (some own) tg tg' && decide (ifs.len ≤ 1) && ckEs G (inner c scope) ifs ifs' && ckE G (inner c scope) elt elt'
    | none => false
  | .comp2 elt tg it ifs tg1 it1 ifs1 own own1, ex => match vComp2 ex with
    | some (elt', (tg', it', ifs'), (tg1', it1', ifs1'), scope, _) => blkC c.N c.sc scope (owOf c.N own) && (own1.all fun i => own.contains i) && ckIt G c it tg' it' && ckG G (inner c scope) (some own) tg tg' && decide (ifs.len ≤ 1) && ckEs G (inner c scope) ifs ifs' &&
        ckIt G (inner c scope) it1 tg1' it1' && ckG G (inner c scope) (some own1) tg1 tg1' && decide (ifs1.len ≤ 1) && ckEs G (inner c scope) ifs1 ifs1' && ckE G (inner c scope) elt elt'
    | none => false
  | .app i e, ex => match vMeth ex with
    | some (o, m, ap, es', cp) => decide (m = ("append" : Str)) && ap.endLine == cp.line && (match vName o with
      | some (x, _) => ckVar c i x
      | none => false) && (match es' with
      | [e'] => ckE G c e e'
      | _ => false)
    | none => false
  | .ext i e, ex => match vMeth ex with
    | some (o, m, ap, es', cp) => decide (m = ("extend" : Str)) && ap.endLine == cp.line && (match vName o with
      | some (x, _) => ckVar c i x
      | none => false) && (match es' with
      | [e'] => ckE G c e e'
      | _ => false)
    | none => false
  | .pop i e, ex => match vMeth ex with
    | some (o, m, ap, es', cp) => decide (m = ("pop" : Str)) && ap.endLine == cp.line && (match vName o with
      | some (x, _) => ckVar c i x
      | none => false) && (match es' with
      | [] => ckO G c e none
      | [e'] => ckO G c e (some e')
      | _ => false)
    | none => false
  | .ins _ _ _, _ => false
  | .ixof a b, ex => match vMeth ex with
    | some (o, m, ap, es', cp) => decide (m = ("index" : Str)) && ap.endLine == cp.line && (vName o).isSome && ckE G c a o && (match es' with
      | [e'] => ckE G c b e'
      | _ => false)
    | none => false
  | .stp a k, ex => match vSub ex with
    | some (a', s, _) => match vStp s with
      | some (st, _) => ckE G c a a' && ckStp k st
      | none => false
    | none => false
  | .lset a, ex => match vCall ex with
    | some (x, _, es', kws, _) => kws.isEmpty && ckBlt G c x && decide (x = ("len" : Str)) && (match es' with
      | [e'] => match vCall e' with
        | some (y, _, es2, kws2, _) => kws2.isEmpty && ckBlt G c y && decide (y = ("set" : Str)) && (match es2 with
          | [a'] => ckE G c a a'
          | _ => false)
        | none => false
      | _ => false)
    | none => false
  | .callv i fs es, ex => match vCall ex with
    | some (x, _, es', kws, _) => kws.isEmpty && ckVar c i x && (fs.all G.known) && !es'.isEmpty && ckEs G c es es'
    | none => false
def ckEs (G : GC) (c : CC) : Exs → List Expr → Bool
  | .nil, es' => es'.isEmpty
  | .cons e es, es' => match es' with
    | e' :: r => ckE G c e e' && ckEs G c es r
    | [] => false
def ckKs (G : GC) (c : CC) : Exs → List Keyword → Bool
  | .nil, es' => es'.isEmpty
  | .cons e es, es' => match es' with
    | ⟨_, e', _⟩ :: r => ckE G c e e' && ckKs G c es r
    | [] => false
def ckO (G : GC) (c : CC) : Exo → Option Expr → Bool
  | .none, e => e.isNone
  | .some e, e' => match e' with
    | some e' => ckE G c e e'
    | none => false
def ckIt (G : GC) (c : CC) : It → Expr → Expr → Bool
  | .ex e, _, ex => ckE G c e ex
  | .r1 a, _, ex => match vCall ex with
    | some (x, _, es', kws, _) => kws.isEmpty && ckBlt G c x && decide (x = ("range" : Str)) && (match es' with
      | [a'] => ckE G c a a'
      | _ => false)
    | none => false
  | .r2 a b, _, ex => match vCall ex with
    | some (x, _, es', kws, _) => kws.isEmpty && ckBlt G c x && decide (x = ("range" : Str)) && (match es' with
      | [a', b'] => ckE G c a a' && ckE G c b b'
      | _ => false)
    | none => false
  | .r3 a b d, _, ex => match vCall ex with
    | some (x, _, es', kws, _) => kws.isEmpty && ckBlt G c x && decide (x = ("range" : Str)) && (match es' with
      | [a', b', d'] => ckE G c a a' && ckE G c b b' && ckE G c d d'
      | _ => false)
    | none => false
  | .enum a, tg, ex => match vCall ex with
    | some (x, _, es', kws, _) => (vTup tg).isSome && kws.isEmpty && ckBlt G c x && decide (x = ("enumerate" : Str)) && (match es' with
      | [a'] => ckE G c a a'
      | _ => false)
    | none => false
  | .zip a b, tg, ex => match vCall ex with
    | some (x, _, es', kws, _) => (vTup tg).isSome && kws.isEmpty && ckBlt G c x && decide (x = ("zip" : Str)) && (match es' with
      | [a', b'] => ckE G c a a' && ckE G c b b'
      | _ => false)
    | none => false
/-- a range as a list -/
def ckRng (G : GC) (c : CC) : It → Expr → Bool
  | .r1 a, ex => match vCall ex with
    | some (x, _, es', kws, _) => kws.isEmpty && ckBlt G c x && decide (x = ("range" : Str)) && (match es' with
      | [a'] => ckE G c a a'
      | _ => false)
    | none => false
  | .r2 a b, ex => match vCall ex with
    | some (x, _, es', kws, _) => kws.isEmpty && ckBlt G c x && decide (x = ("range" : Str)) && (match es' with
      | [a', b'] => ckE G c a a' && ckE G c b b'
      | _ => false)
    | none => false
  | .ex _, _ => false
  | .r3 _ _ _, _ => false
  | .enum _, _ => false
  | .zip _ _, _ => false
def ckG (G : GC) (c : CC) (own : Option (List Nat)) : Tg → Expr → Bool
  | .nm i, ex => match vName ex with
    | some (x, _) => decide (c.N[i]? = some x) && isLoc (c.sc.names.lookup x) && (c.fn x || isL (c.sc.names.lookup x)) && subOwn own i
    | none => false
  | .tp ts, ex => match vTup ex with
    | some (es, _, _) => ckGs G c own ts es
    | none => false
  | .sub i e, ex => match vSub ex with
    | some (o, b, _) => (match vName o with
      | some (x, _) => ckVar c i x
      | none => false) && ckE G c e b
    | none => false
def ckGs (G : GC) (c : CC) (own : Option (List Nat)) : Tgs → List Expr → Bool
  | .nil, es => es.isEmpty
  | .cons t ts, es => match es with
    | e :: r => ckG G c own t e && ckGs G c own ts r
    | [] => false
end
end Ev

set_option Elab.async false
set_option linter.all false
set_option maxRecDepth 100000
set_option autoImplicit false
namespace Ev
section
variable {C : Ctx}
theorem evE_var {i : Nat} : evE C (.var i) = (rd i) := rfl
theorem evE_k {t : T} : evE C (.k t) = (M.pure (t, false)) := rfl
theorem evE_glb {x : Nat} : evE C (.glb x) = (do
    let t ← lift (C.glb x)
    M.pure (t, false)) := rfl
theorem evE_bin {o : Bin} {a b : Ex} : evE C (.bin o a b) = (do
    let x ← evO C a
    let y ← evO C b
    let x ← res x
    let y ← res y
    lift (binF o x y)) := rfl
theorem evE_neg {a : Ex} : evE C (.neg a) = (do
    let x ← evO C a
    let x ← res x
    let i ← lift (asInt x)
    M.pure (.int (-i), false)) := rfl
theorem evE_not {a : Ex} : evE C (.not a) = (do
    let x ← evO C a
    let x ← res x
    let b ← lift (truT x)
    M.pure (.bl (!b), false)) := rfl
theorem evE_and {a b : Ex} : evE C (.and a b) = (do
    let (x, _) ← evE C a
    let c ← lift (truT x)
    if c then evE C b else M.pure (x, false)) := rfl
theorem evE_or {a b : Ex} : evE C (.or a b) = (do
    let (x, _) ← evE C a
    let c ← lift (truT x)
    if c then M.pure (x, false) else evE C b) := rfl
theorem evE_cmp {o : Cmp} {a b : Ex} : evE C (.cmp o a b) = (do
    let x ← evO C a
    let y ← evO C b
    let x ← res x
    let y ← res y
    lift ((cmpF o x y).map fun z => (.bl z, false))) := rfl
theorem evE_chn {o o' : Cmp} {a b c : Ex} : evE C (.chn o o' a b c) = (do
    let x ← evO C a
    let y ← evO C b
    let x ← res x
    let y1 ← res y
    let z ← lift (cmpF o x y1)
    if z then do
      let w ← evO C c
      let y2 ← res y
      let w ← res w
      let z ← lift (cmpF o' y2 w)
      M.pure (.bl z, false)
    else M.pure (.bl false, false)) := rfl
theorem evE_ite {c a b : Ex} : evE C (.ite c a b) = (do
    let t ← evT C c
    if t then evE C a else evE C b) := rfl
theorem evE_tup {es : Exs} : evE C (.tup es) = (do
    let ts ← evEs C es
    M.pure (.tup ts, false)) := rfl
theorem evE_lst {es : Exs} : evE C (.lst es) = (do
    let ts ← evEs C es
    M.pure (.lst ts, true)) := rfl
theorem evE_idx {a b : Ex} : evE C (.idx a b) = (do
    let x ← evO C a
    let y ← evO C b
    let x ← res x
    let y ← res y
    lift ((idxT x y).map fun z => (z, false))) := rfl
theorem evE_slc {a : Ex} {lo hi : Exo} : evE C (.slc a lo hi) = (do
    let x ← evO C a
    let l ← evI C lo
    let h ← evI C hi
    let x ← res x
    let z ← lift (slcT x l h)
    M.pure (z, true)) := rfl
theorem evE_call {f : Nat} {es : Exs} : evE C (.call f es) = (do
    let os ← evA C (C.io f) 0 es
    doCall C f os) := rfl
theorem evE_callk {f : Nat} {es ks : Exs} {perm : List Nat} : evE C (.callk f es ks perm) = (do
    let os ← evA C none 0 es
    let qs ← evA C none 0 ks
    if (C.io f).isSome then fail else
    doCall C f (perm.filterMap fun i => (os ++ qs)[i]?)) := rfl
theorem evE_bif {b : Bif} {es : Exs} : evE C (.bif b es) = (do
    let os ← evOs C es
    let ts ← resAll os
    lift (bifF b ts)) := rfl
theorem evE_isi {a : Ex} {t : List Ty} : evE C (.isi a t) = (do
    let x ← evO C a
    let x ← res x
    lift (isiF t x)) := rfl
theorem evE_lrng {tp : Bool} {r : It} : evE C (.lrng tp r) = (do
    let xs ← evIt C r
    M.pure (if tp then .tup xs else .lst xs, !tp)) := rfl
theorem evE_comp {elt : Ex} {tg : Tg} {it : It} {ifs : Exs} {own : List Nat} : evE C (.comp elt tg it ifs own) = (do
    let xs ← evIt C it
    let ys ← block own (each (fun x => turn own (do
      evG C tg x false
      let b ← evTs C ifs
      if b then do
        let (y, _) ← evE C elt
        M.pure [y]
      else M.pure [])) xs)
    let _ ← lift (capped ys)
    M.pure (.lst ys, true)) := rfl
theorem evE_comp2 {elt : Ex} {tg : Tg} {it : It} {ifs : Exs} {tg1 : Tg} {it1 : It} {ifs1 : Exs} {own own1 : List Nat} : evE C (.comp2 elt tg it ifs tg1 it1 ifs1 own own1) = (do
    let xs ← evIt C it
    let ys ← block own (each (fun x => turn own (do
      evG C tg x false
      let b ← evTs C ifs
      if b then do
        let zs ← evIt C it1
        wipeM own1
        each (fun z => turn own1 (do
          evG C tg1 z false
          let b ← evTs C ifs1
          if b then do
            let (y, _) ← evE C elt
            M.pure [y]
          else M.pure [])) zs
      else M.pure [])) xs)
    let _ ← lift (capped ys)
    M.pure (.lst ys, true)) := rfl
theorem evE_app {i : Nat} {e : Ex} : evE C (.app i e) = (do
    let _ ← mine i
    let (x, _) ← evE C e
    match ← mine i with
    | .lst xs => do
      need (decide (xs.length < LIM))
      chg i (.lst (xs ++ [x]))
      M.pure (.non, false)
    | _ => fail) := rfl
theorem evE_ext {i : Nat} {e : Ex} : evE C (.ext i e) = (do
    let _ ← mine i
    let (x, _) ← evE C e
    let ys ← lift (lstOf x)
    match ← mine i with
    | .lst xs => do
      need (decide (xs.length + ys.length ≤ LIM))
      chg i (.lst (xs ++ ys))
      M.pure (.non, false)
    | _ => fail) := rfl
theorem evE_pop {i : Nat} {e : Exo} : evE C (.pop i e) = (do
    let _ ← mine i
    let j ← evI C e
    match ← mine i with
    | .lst xs => do
      let k ← lift (L2.ixN xs.length (j.getD (-1)))
      let y ← lift xs[k]?
      chg i (.lst (xs.eraseIdx k))
      M.pure (y, false)
    | _ => fail) := rfl
theorem evE_ins {i : Nat} {a b : Ex} : evE C (.ins i a b) = (do
    let _ ← mine i
    let (p, _) ← evE C a
    let p ← lift (asInt p)
    let (x, _) ← evE C b
    match ← mine i with
    | .lst xs => do
      need (decide (xs.length < LIM ∧ 0 ≤ p ∧ p < LIM))
      chg i (.lst (xs.take p.toNat ++ [x] ++ xs.drop p.toNat))
      M.pure (.non, false)
    | _ => fail) := rfl
theorem evE_ixof {a b : Ex} : evE C (.ixof a b) = (do
    let x ← evO C a
    let x0 ← res x
    let _ ← lift (lstOf x0)
    let y ← evO C b
    let x ← res x
    let y ← res y
    let xs ← lift (lstOf x)
    need (y.dat 60 && datAll 60 xs)
    let k ← lift (xs.findIdx? fun z => z.eqv y)
    M.pure (.int k, false)) := rfl
theorem evT_k {t : T} : evT C (.k t) = (do let (x, _) ← evE C (.k t); lift (truT x)) := rfl
theorem evT_glb {x : Nat} : evT C (.glb x) = (do let (x, _) ← evE C (.glb x); lift (truT x)) := rfl
theorem evT_bin {o : Bin} {a b : Ex} : evT C (.bin o a b) = (do let (x, _) ← evE C (.bin o a b); lift (truT x)) := rfl
theorem evT_neg {a : Ex} : evT C (.neg a) = (do let (x, _) ← evE C (.neg a); lift (truT x)) := rfl
theorem evT_cmp {o : Cmp} {a b : Ex} : evT C (.cmp o a b) = (do let (x, _) ← evE C (.cmp o a b); lift (truT x)) := rfl
theorem evT_chn {o o' : Cmp} {a b c : Ex} : evT C (.chn o o' a b c) = (do let (x, _) ← evE C (.chn o o' a b c); lift (truT x)) := rfl
theorem evT_tup {es : Exs} : evT C (.tup es) = (do let (x, _) ← evE C (.tup es); lift (truT x)) := rfl
theorem evT_lst {es : Exs} : evT C (.lst es) = (do let (x, _) ← evE C (.lst es); lift (truT x)) := rfl
theorem evT_idx {a b : Ex} : evT C (.idx a b) = (do let (x, _) ← evE C (.idx a b); lift (truT x)) := rfl
theorem evT_slc {a : Ex} {lo hi : Exo} : evT C (.slc a lo hi) = (do let (x, _) ← evE C (.slc a lo hi); lift (truT x)) := rfl
theorem evT_call {f : Nat} {es : Exs} : evT C (.call f es) = (do let (x, _) ← evE C (.call f es); lift (truT x)) := rfl
theorem evT_callk {f : Nat} {es ks : Exs} {perm : List Nat} : evT C (.callk f es ks perm) = (do let (x, _) ← evE C (.callk f es ks perm); lift (truT x)) := rfl
theorem evT_bif {b : Bif} {es : Exs} : evT C (.bif b es) = (do let (x, _) ← evE C (.bif b es); lift (truT x)) := rfl
theorem evT_isi {a : Ex} {t : List Ty} : evT C (.isi a t) = (do let (x, _) ← evE C (.isi a t); lift (truT x)) := rfl
theorem evT_lrng {tp : Bool} {r : It} : evT C (.lrng tp r) = (do let (x, _) ← evE C (.lrng tp r); lift (truT x)) := rfl
theorem evT_comp {elt : Ex} {tg : Tg} {it : It} {ifs : Exs} {own : List Nat} : evT C (.comp elt tg it ifs own) = (do let (x, _) ← evE C (.comp elt tg it ifs own); lift (truT x)) := rfl
theorem evT_comp2 {elt : Ex} {tg : Tg} {it : It} {ifs : Exs} {tg1 : Tg} {it1 : It} {ifs1 : Exs} {own own1 : List Nat} : evT C (.comp2 elt tg it ifs tg1 it1 ifs1 own own1) = (do let (x, _) ← evE C (.comp2 elt tg it ifs tg1 it1 ifs1 own own1); lift (truT x)) := rfl
theorem evT_app {i : Nat} {e : Ex} : evT C (.app i e) = (do let (x, _) ← evE C (.app i e); lift (truT x)) := rfl
theorem evT_ext {i : Nat} {e : Ex} : evT C (.ext i e) = (do let (x, _) ← evE C (.ext i e); lift (truT x)) := rfl
theorem evT_pop {i : Nat} {e : Exo} : evT C (.pop i e) = (do let (x, _) ← evE C (.pop i e); lift (truT x)) := rfl
theorem evT_ins {i : Nat} {a b : Ex} : evT C (.ins i a b) = (do let (x, _) ← evE C (.ins i a b); lift (truT x)) := rfl
theorem evE_stp {a : Ex} {k : Int} : evE C (.stp a k) = (do
    let x ← evO C a
    let x ← res x
    lift (stpF k x)) := rfl
theorem evE_lset {a : Ex} : evE C (.lset a) = (do
    let x ← evO C a
    let x ← res x
    lift (lsetF x)) := rfl
theorem evT_lset {a : Ex} : evT C (.lset a) = (do let (x, _) ← evE C (.lset a); lift (truT x)) := rfl
theorem evO_lset {a : Ex} : evO C (.lset a) = (do let (x, _) ← evE C (.lset a); M.pure (.val x)) := rfl
theorem evW_lset {a : Ex} : evW C (.lset a) = (do let (x, fr) ← evE C (.lset a); if fr && isRef x then M.pure (.own x) else fail) := rfl
theorem evE_callv {i : Nat} {fs : List Nat} {es : Exs} : evE C (.callv i fs es) = (do
    let z ← peek i
    let f ← lift (fnOf z)
    if (C.io f).isSome || !fs.contains f then fail else do
      let os ← evA C none 0 es
      doCall C f os) := rfl
theorem evT_stp {a : Ex} {k : Int} : evT C (.stp a k) = (do let (x, _) ← evE C (.stp a k); lift (truT x)) := rfl
theorem evT_callv {i : Nat} {fs : List Nat} {es : Exs} : evT C (.callv i fs es) = (do let (x, _) ← evE C (.callv i fs es); lift (truT x)) := rfl
theorem evO_stp {a : Ex} {k : Int} : evO C (.stp a k) = (do let (x, _) ← evE C (.stp a k); M.pure (.val x)) := rfl
theorem evW_stp {a : Ex} {k : Int} : evW C (.stp a k) = (do let (x, fr) ← evE C (.stp a k); if fr && isRef x then M.pure (.own x) else fail) := rfl
theorem evO_callv {i : Nat} {fs : List Nat} {es : Exs} : evO C (.callv i fs es) = (do let (x, _) ← evE C (.callv i fs es); M.pure (.val x)) := rfl
theorem evW_callv {i : Nat} {fs : List Nat} {es : Exs} : evW C (.callv i fs es) = (do let (x, fr) ← evE C (.callv i fs es); if fr && isRef x then M.pure (.own x) else fail) := rfl
theorem evT_ixof {a b : Ex} : evT C (.ixof a b) = (do let (x, _) ← evE C (.ixof a b); lift (truT x)) := rfl
theorem evO_k {t : T} : evO C (.k t) = (do let (x, _) ← evE C (.k t); M.pure (.val x)) := rfl
theorem evW_k {t : T} : evW C (.k t) = (do let (x, fr) ← evE C (.k t); if fr && isRef x then M.pure (.own x) else fail) := rfl
theorem evO_glb {x : Nat} : evO C (.glb x) = (do let (x, _) ← evE C (.glb x); M.pure (.val x)) := rfl
theorem evW_glb {x : Nat} : evW C (.glb x) = (do let (x, fr) ← evE C (.glb x); if fr && isRef x then M.pure (.own x) else fail) := rfl
theorem evO_bin {o : Bin} {a b : Ex} : evO C (.bin o a b) = (do let (x, _) ← evE C (.bin o a b); M.pure (.val x)) := rfl
theorem evW_bin {o : Bin} {a b : Ex} : evW C (.bin o a b) = (do let (x, fr) ← evE C (.bin o a b); if fr && isRef x then M.pure (.own x) else fail) := rfl
theorem evO_neg {a : Ex} : evO C (.neg a) = (do let (x, _) ← evE C (.neg a); M.pure (.val x)) := rfl
theorem evW_neg {a : Ex} : evW C (.neg a) = (do let (x, fr) ← evE C (.neg a); if fr && isRef x then M.pure (.own x) else fail) := rfl
theorem evO_not {a : Ex} : evO C (.not a) = (do let (x, _) ← evE C (.not a); M.pure (.val x)) := rfl
theorem evW_not {a : Ex} : evW C (.not a) = (do let (x, fr) ← evE C (.not a); if fr && isRef x then M.pure (.own x) else fail) := rfl
theorem evO_and {a b : Ex} : evO C (.and a b) = (do let (x, _) ← evE C (.and a b); M.pure (.val x)) := rfl
theorem evW_and {a b : Ex} : evW C (.and a b) = (do let (x, fr) ← evE C (.and a b); if fr && isRef x then M.pure (.own x) else fail) := rfl
theorem evO_or {a b : Ex} : evO C (.or a b) = (do let (x, _) ← evE C (.or a b); M.pure (.val x)) := rfl
theorem evW_or {a b : Ex} : evW C (.or a b) = (do let (x, fr) ← evE C (.or a b); if fr && isRef x then M.pure (.own x) else fail) := rfl
theorem evO_cmp {o : Cmp} {a b : Ex} : evO C (.cmp o a b) = (do let (x, _) ← evE C (.cmp o a b); M.pure (.val x)) := rfl
theorem evW_cmp {o : Cmp} {a b : Ex} : evW C (.cmp o a b) = (do let (x, fr) ← evE C (.cmp o a b); if fr && isRef x then M.pure (.own x) else fail) := rfl
theorem evO_chn {o o' : Cmp} {a b c : Ex} : evO C (.chn o o' a b c) = (do let (x, _) ← evE C (.chn o o' a b c); M.pure (.val x)) := rfl
theorem evW_chn {o o' : Cmp} {a b c : Ex} : evW C (.chn o o' a b c) = (do let (x, fr) ← evE C (.chn o o' a b c); if fr && isRef x then M.pure (.own x) else fail) := rfl
theorem evO_ite {c a b : Ex} : evO C (.ite c a b) = (do let (x, _) ← evE C (.ite c a b); M.pure (.val x)) := rfl
theorem evW_ite {c a b : Ex} : evW C (.ite c a b) = (do let (x, fr) ← evE C (.ite c a b); if fr && isRef x then M.pure (.own x) else fail) := rfl
theorem evO_tup {es : Exs} : evO C (.tup es) = (do let (x, _) ← evE C (.tup es); M.pure (.val x)) := rfl
theorem evW_tup {es : Exs} : evW C (.tup es) = (do let (x, fr) ← evE C (.tup es); if fr && isRef x then M.pure (.own x) else fail) := rfl
theorem evO_lst {es : Exs} : evO C (.lst es) = (do let (x, _) ← evE C (.lst es); M.pure (.val x)) := rfl
theorem evW_lst {es : Exs} : evW C (.lst es) = (do let (x, fr) ← evE C (.lst es); if fr && isRef x then M.pure (.own x) else fail) := rfl
theorem evO_idx {a b : Ex} : evO C (.idx a b) = (do let (x, _) ← evE C (.idx a b); M.pure (.val x)) := rfl
theorem evW_idx {a b : Ex} : evW C (.idx a b) = (do let (x, fr) ← evE C (.idx a b); if fr && isRef x then M.pure (.own x) else fail) := rfl
theorem evO_slc {a : Ex} {lo hi : Exo} : evO C (.slc a lo hi) = (do let (x, _) ← evE C (.slc a lo hi); M.pure (.val x)) := rfl
theorem evW_slc {a : Ex} {lo hi : Exo} : evW C (.slc a lo hi) = (do let (x, fr) ← evE C (.slc a lo hi); if fr && isRef x then M.pure (.own x) else fail) := rfl
theorem evO_call {f : Nat} {es : Exs} : evO C (.call f es) = (do let (x, _) ← evE C (.call f es); M.pure (.val x)) := rfl
theorem evW_call {f : Nat} {es : Exs} : evW C (.call f es) = (do let (x, fr) ← evE C (.call f es); if fr && isRef x then M.pure (.own x) else fail) := rfl
theorem evO_callk {f : Nat} {es ks : Exs} {perm : List Nat} : evO C (.callk f es ks perm) = (do let (x, _) ← evE C (.callk f es ks perm); M.pure (.val x)) := rfl
theorem evW_callk {f : Nat} {es ks : Exs} {perm : List Nat} : evW C (.callk f es ks perm) = (do let (x, fr) ← evE C (.callk f es ks perm); if fr && isRef x then M.pure (.own x) else fail) := rfl
theorem evO_bif {b : Bif} {es : Exs} : evO C (.bif b es) = (do let (x, _) ← evE C (.bif b es); M.pure (.val x)) := rfl
theorem evW_bif {b : Bif} {es : Exs} : evW C (.bif b es) = (do let (x, fr) ← evE C (.bif b es); if fr && isRef x then M.pure (.own x) else fail) := rfl
theorem evO_isi {a : Ex} {t : List Ty} : evO C (.isi a t) = (do let (x, _) ← evE C (.isi a t); M.pure (.val x)) := rfl
theorem evW_isi {a : Ex} {t : List Ty} : evW C (.isi a t) = (do let (x, fr) ← evE C (.isi a t); if fr && isRef x then M.pure (.own x) else fail) := rfl
theorem evO_lrng {tp : Bool} {r : It} : evO C (.lrng tp r) = (do let (x, _) ← evE C (.lrng tp r); M.pure (.val x)) := rfl
theorem evW_lrng {tp : Bool} {r : It} : evW C (.lrng tp r) = (do let (x, fr) ← evE C (.lrng tp r); if fr && isRef x then M.pure (.own x) else fail) := rfl
theorem evO_comp {elt : Ex} {tg : Tg} {it : It} {ifs : Exs} {own : List Nat} : evO C (.comp elt tg it ifs own) = (do let (x, _) ← evE C (.comp elt tg it ifs own); M.pure (.val x)) := rfl
theorem evW_comp {elt : Ex} {tg : Tg} {it : It} {ifs : Exs} {own : List Nat} : evW C (.comp elt tg it ifs own) = (do let (x, fr) ← evE C (.comp elt tg it ifs own); if fr && isRef x then M.pure (.own x) else fail) := rfl
theorem evO_comp2 {elt : Ex} {tg : Tg} {it : It} {ifs : Exs} {tg1 : Tg} {it1 : It} {ifs1 : Exs} {own own1 : List Nat} : evO C (.comp2 elt tg it ifs tg1 it1 ifs1 own own1) = (do let (x, _) ← evE C (.comp2 elt tg it ifs tg1 it1 ifs1 own own1); M.pure (.val x)) := rfl
theorem evW_comp2 {elt : Ex} {tg : Tg} {it : It} {ifs : Exs} {tg1 : Tg} {it1 : It} {ifs1 : Exs} {own own1 : List Nat} : evW C (.comp2 elt tg it ifs tg1 it1 ifs1 own own1) = (do let (x, fr) ← evE C (.comp2 elt tg it ifs tg1 it1 ifs1 own own1); if fr && isRef x then M.pure (.own x) else fail) := rfl
theorem evO_app {i : Nat} {e : Ex} : evO C (.app i e) = (do let (x, _) ← evE C (.app i e); M.pure (.val x)) := rfl
theorem evW_app {i : Nat} {e : Ex} : evW C (.app i e) = (do let (x, fr) ← evE C (.app i e); if fr && isRef x then M.pure (.own x) else fail) := rfl
theorem evO_ext {i : Nat} {e : Ex} : evO C (.ext i e) = (do let (x, _) ← evE C (.ext i e); M.pure (.val x)) := rfl
theorem evW_ext {i : Nat} {e : Ex} : evW C (.ext i e) = (do let (x, fr) ← evE C (.ext i e); if fr && isRef x then M.pure (.own x) else fail) := rfl
theorem evO_pop {i : Nat} {e : Exo} : evO C (.pop i e) = (do let (x, _) ← evE C (.pop i e); M.pure (.val x)) := rfl
theorem evW_pop {i : Nat} {e : Exo} : evW C (.pop i e) = (do let (x, fr) ← evE C (.pop i e); if fr && isRef x then M.pure (.own x) else fail) := rfl
theorem evO_ins {i : Nat} {a b : Ex} : evO C (.ins i a b) = (do let (x, _) ← evE C (.ins i a b); M.pure (.val x)) := rfl
theorem evW_ins {i : Nat} {a b : Ex} : evW C (.ins i a b) = (do let (x, fr) ← evE C (.ins i a b); if fr && isRef x then M.pure (.own x) else fail) := rfl
theorem evO_ixof {a b : Ex} : evO C (.ixof a b) = (do let (x, _) ← evE C (.ixof a b); M.pure (.val x)) := rfl
theorem evW_ixof {a b : Ex} : evW C (.ixof a b) = (do let (x, fr) ← evE C (.ixof a b); if fr && isRef x then M.pure (.own x) else fail) := rfl
theorem evT_not {a : Ex} : evT C (.not a) = (do let b ← evT C a; M.pure (!b)) := rfl
theorem evT_and {a b : Ex} : evT C (.and a b) = (do let c ← evT C a; if c then evT C b else M.pure false) := rfl
theorem evT_or {a b : Ex} : evT C (.or a b) = (do let c ← evT C a; if c then M.pure true else evT C b) := rfl
theorem evT_ite {cc a b : Ex} : evT C (.ite cc a b) = (do let t ← evT C cc; if t then evT C a else evT C b) := rfl
theorem evT_var {i : Nat} : evT C (.var i) = (do let x ← peek i; lift (truT x)) := rfl
theorem evO_var {i : Nat} : evO C (.var i) = (do let _ ← peek i; M.pure (.slot i)) := rfl
theorem evW_var {i : Nat} : evW C (.var i) = (do let _ ← peek i; M.pure (.slot i)) := rfl
theorem evEs_nil : evEs C .nil = M.pure [] := rfl
theorem evEs_cons {e : Ex} {es : Exs} : evEs C (.cons e es) = (do
    let (t, _) ← evE C e
    let ts ← evEs C es
    M.pure (t :: ts)) := rfl
theorem evOs_nil : evOs C .nil = M.pure [] := rfl
theorem evOs_cons {e : Ex} {es : Exs} : evOs C (.cons e es) = (do
    let t ← evO C e
    let ts ← evOs C es
    M.pure (t :: ts)) := rfl
theorem evA_nil {io : Option Nat} {j : Nat} : evA C io j .nil = M.pure [] := rfl
theorem evA_cons {io : Option Nat} {j : Nat} {e : Ex} {es : Exs} : evA C io j (.cons e es) = (do
    let t ← (if io = some j then evW C e else do
      let (t, _) ← evE C e
      M.pure (.val t))
    let ts ← evA C io (j + 1) es
    M.pure (t :: ts)) := rfl
theorem evI_none : evI C .none = M.pure none := rfl
theorem evI_some {e : Ex} : evI C (.some e) = (do
    let x ← evO C e
    let x ← res x
    let i ← lift (asInt x)
    M.pure (some i)) := rfl
theorem evTs_nil : evTs C .nil = M.pure true := rfl
theorem evTs_cons {e : Ex} {es : Exs} : evTs C (.cons e es) = (do
    let c ← evT C e
    if c then evTs C es else M.pure false) := rfl
theorem evIt_ex {e : Ex} : evIt C (.ex e) = (do
    let (x, _) ← evE C e
    lift (seqOf x)) := rfl
theorem evIt_r1 {a : Ex} : evIt C (.r1 a) = (do
    let x ← evO C a
    let x ← res x
    let i ← lift (asInt x)
    lift (rngT 0 i)) := rfl
theorem evIt_r2 {a b : Ex} : evIt C (.r2 a b) = (do
    let x ← evO C a
    let y ← evO C b
    let x ← res x
    let y ← res y
    let i ← lift (asInt x)
    let j ← lift (asInt y)
    lift (rngT i j)) := rfl
theorem evIt_r3 {a b c : Ex} : evIt C (.r3 a b c) = (do
    let x ← evO C a
    let y ← evO C b
    let z ← evO C c
    let x ← res x
    let y ← res y
    let z ← res z
    let i ← lift (asInt x)
    let j ← lift (asInt y)
    let k ← lift (asInt z)
    need (decide (-LIM ≤ i ∧ i ≤ LIM ∧ -LIM ≤ j ∧ j ≤ LIM ∧ -LIM ≤ k ∧ k ≤ LIM))
    lift (rng3 i j k)) := rfl
theorem evIt_enum {a : Ex} : evIt C (.enum a) = (do
    let (x, _) ← evE C a
    let xs ← lift (enuF x)
    M.pure (enumL xs)) := rfl
theorem evIt_zip {a b : Ex} : evIt C (.zip a b) = (do
    let (x, _) ← evE C a
    let (y, _) ← evE C b
    lift (zipF x y)) := rfl
theorem evG_nm {i : Nat} {t : T} {fr : Bool} : evG C (.nm i) t fr = bnd i t fr := rfl
theorem evG_tp {ts : Tgs} {t : T} {fr : Bool} : evG C (.tp ts) t fr = (match t with
    | .tup xs => evGs C ts xs
    | .lst xs => evGs C ts xs
    | _ => fail) := by cases t <;> rfl
theorem evG_sub {i : Nat} {e : Ex} {t : T} {fr : Bool} : evG C (.sub i e) t fr = (do
    let _ ← mine i
    let x ← evO C e
    let x ← res x
    let j ← lift (asInt x)
    match ← mine i with
    | .lst xs => do
      let k ← lift (L2.ixN xs.length j)
      chg i (.lst (xs.set k t))
    | _ => fail) := rfl
theorem evGs_nil : evGs C .nil [] = M.pure () := rfl
theorem evGs_cons {t : Tg} {ts : Tgs} {x : T} {xs : List T} : evGs C (.cons t ts) (x :: xs) = (do
    evG C t x false
    evGs C ts xs) := rfl
end
end Ev

set_option Elab.async false
set_option linter.all false
set_option maxRecDepth 100000
set_option autoImplicit false
namespace Ev
open PySem PySem.Spec PyProof.Rows L2
open Classical
section
variable {F : Nat → Addr} {K : PySem.W.Frag} {X : Cx} {B B' B1 B2 : Addr → Prop} {env env' env0 env1 env2 : Env} {σ σ' σ1 σ2 : L2.St} {H H' H0 H1 H2 H3 Hm : Hp} {v w : V} {x y o : Opd} {t : T} {e a b c : Expr} {pos : Pos} {rest : List Expr} {i : Nat}
/-- a built-in function -/
theorem ee_bifAll {bi : Bif} {es : List Expr} {ms : M (List Opd)} {p : Pos} (hu : X.A.units + 65 < cLine) (hc : X.calm = true) (hg : Gl X (bifNm bi)) (hm : X.mg (bifNm bi) = none) (hs : ∀ e' ∈ e :: es, ∀ x p, e' ≠ Expr.Starred x p) (hb : 0 < bifAr bi) (ha : PA X (e :: es) (fOs F X.K ms)) :
    PE X (.Call (.Name (bifNm bi) p) (e :: es) [] pos) (fE F X.K (do let os ← ms; let ts ← resAll os; lift (bifF bi ts))) := by
  have h1 := starEach_cons (hs e List.mem_cons_self) (es := es) (env := X.env)
  have h2 := star_any (pos := pos) (env := X.env) fun e' m => hs e' (List.mem_cons_of_mem _ m)
  cases bi with
  | len => exact ee_bif ha c1_len.cal fun t h => pe_callB call_len_seq hg hm boot_len h (by decide) (by decide) h1 h2
  | tuple => exact ee_bif ha c1_tuple.cal fun t h => pe_callTy call_tuple_of hg hm PyProof.Rows.boot_tuple h (by decide) (by decide) h1 h2
  | list => exact ee_bif ha c1_list.cal fun t h => pe_callTy call_list_of hg hm PyProof.Rows.boot_list h (by decide) (by decide) h1 h2
  | sorted => exact ee_bif ha (c1_sortI.cal.or (c1_sortP.cal.or c1_sortT.cal)) fun t h => pe_callB (cr_sortedI.or (cr_sortedPO.or (cr_sortedLT (by omega)))) hg hm PyProof.Rows.boot_sorted h (by decide) (by decide) h1 h2
  | sum => exact ee_bif ha c1_sum.cal fun t h => pe_callB ((cr_sum hc).or (cr_sumT hc)) hg hm PyProof.Rows.boot_sum h (by decide) (by decide) h1 h2
  | max => exact ee_bif ha c1_max.cal fun t h => pe_callB ((cr_max hc).or (cr_maxT hc)) hg hm PyProof.Rows.boot_max h (by decide) (by decide) h1 h2
  | min => exact ee_bif ha c1_min.cal fun t h => pe_callB ((cr_min hc).or (cr_minT hc)) hg hm PyProof.Rows.boot_min h (by decide) (by decide) h1 h2
  | abs => exact ee_bif ha c1_abs.cal fun t h => pe_callB call_abs hg hm PyProof.Rows.boot_abs h (by decide) (by decide) h1 h2
  | int => exact ee_bif ha c1_int.cal fun t h => pe_callTy call_int1 hg hm PyProof.Rows.boot_int h (by decide) (by decide) h1 h2
  | all => exact ee_bif ha c1_all.cal fun t h => pe_callB (cr_all hc) hg hm PyProof.Rows.boot_all h (by decide) (by decide) h1 h2
  | any => exact ee_bif ha c1_any.cal fun t h => pe_callB (cr_any hc) hg hm PyProof.Rows.boot_any h (by decide) (by decide) h1 h2
  | divmod => exact ee_bif ha c_divmod fun t h => pe_callB call_divmodW hg hm PyProof.Rows.boot_divmod h (by decide) (by decide) h1 h2
  | max2 => exact ee_bif ha c_max2 fun t h => pe_callB (call_max2 hc) hg hm PyProof.Rows.boot_max h (by decide) (by decide) h1 h2
  | min2 => exact ee_bif ha c_min2 fun t h => pe_callB (call_min2 hc) hg hm PyProof.Rows.boot_min h (by decide) (by decide) h1 h2
  | gcd => cases hb
  | set => cases hb
  | str => cases hb
/-! ### the evaluator's lists -/
theorem evA_len {C : Ctx} : ∀ (es : Exs) {io : Option Nat} {j : Nat} {env env' : Env} {os : List Opd}, evA C io j es env = .ok os env' → os.length = es.len ∧ ∀ (i : Nat) (o : Opd), os[i]? = some o → io ≠ some (j + i) → ∃ t, o = .val t
  | .nil, io, j, env, env', os, h => by
    rw [evA_nil] at h
    obtain ⟨rfl, rfl⟩ := pure_ok.mp h
    exact ⟨rfl, fun i o z => by simp at z⟩
  | .cons e es, io, j, env, env', os, h => by
    rw [evA_cons] at h
    obtain ⟨o, env1, a1, b1⟩ := bind_ok.mp h
    obtain ⟨os', env2, a2, b2⟩ := bind_ok.mp b1
    obtain ⟨rfl, rfl⟩ := pure_ok.mp b2
    obtain ⟨k1, k2⟩ := evA_len es a2
    refine ⟨by simp [k1, Exs.len], fun i o' z ne => ?_⟩
    cases i with
    | zero =>
      simp at z; subst z
      rw [if_neg (by simpa using ne)] at a1
      obtain ⟨r, env3, a3, b3⟩ := bind_ok.mp a1
      obtain ⟨e1, e2⟩ := pure_ok.mp b3
      exact ⟨_, e1.symm⟩
    | succ i =>
      refine k2 i o' (by simpa using z) ?_
      rw [show j + 1 + i = j + (i + 1) by omega]; exact ne
theorem evEs_len {C : Ctx} : ∀ (es : Exs) {env env' : Env} {ts : List T}, evEs C es env = .ok ts env' → ts.length = es.len
  | .nil, env, env', ts, h => by
    rw [evEs_nil] at h
    obtain ⟨rfl, rfl⟩ := pure_ok.mp h
    rfl
  | .cons e es, env, env', ts, h => by
    rw [evEs_cons] at h
    obtain ⟨o, env1, a1, b1⟩ := bind_ok.mp h
    obtain ⟨os', env2, a2, b2⟩ := bind_ok.mp b1
    obtain ⟨rfl, rfl⟩ := pure_ok.mp b2
    simp [evEs_len es a2, Exs.len]
end
end Ev

set_option Elab.async false
set_option linter.all false
set_option maxRecDepth 100000
set_option autoImplicit false
namespace Ev
open PySem PySem.Spec PyProof.Rows L2
open Classical
/-- the context is as the checker takes it -/
structure Gd (G : GC) (F : Nat → Addr) (P : Prog) (wh n : Nat) (c : CC) (X : Cx) : Prop where
  N : X.N = c.N
  nd : c.N.Nodup
  sc : X.env.scope = c.sc
  kind : c.sc.kind = .function
  calm : X.calm = true
  fn : ∀ x, X.fn x = c.fn x
  room : Room n X.A
  blt : ∀ x, G.blt.contains x = true → X.mg x = none
  fd : ∀ f, G.known f = true → Fd X.prog X.w X.K X.mg X.base F P wh G.kw n f (G.fname f) (G.ps f)
  gl : ∀ g, G.gknown g = true → ∃ t u v, P.glb g = some t ∧ X.mg (G.gname g) = some u ∧ RelV v u ∧ ∀ Hm, Rp F X.K Hm t v
  io : ∀ f, G.io f = ioOf P f
structure Snd (F : Nat → Addr) (C : Ctx) (X : Cx) (e : Ex) (ex : Expr) : Prop where
  pe : PE X ex (fE F X.K (evE C e))
  po : PE X ex (fO F X.K (evO C e))
  pa : PE X ex (fO F X.K (evW C e))
  pt : PT X ex (fT F X.K (evT C e))
  pw : (∃ op es p, ex = .BoolOp op es p) → PW X ex (fT F X.K (evT C e))
  ns : ∀ x p, ex ≠ .Starred x p
  nsl : ∀ l u s p, ex ≠ .Slice l u s p
  nset : ∀ es k p, ex ≠ .Set es k p
structure SndL (F : Nat → Addr) (C : Ctx) (X : Cx) (es : Exs) (exs : List Expr) : Prop where
  len : exs.length = es.len
  pl : PA X exs (fL F X.K (evEs C es))
  ps : PA X exs (fOs F X.K (evOs C es))
  pa : ∀ io j, PA X exs (fOs F X.K (evA C io j es))
  ns : ∀ e' ∈ exs, ∀ x p, e' ≠ Expr.Starred x p
  pts : es.len ≤ 1 → PTs X exs (fT F X.K (evTs C es))
section
variable {F : Nat → Addr} {G : GC} {c : CC} {P : Prog} {wh n : Nat} {X : Cx} {C : Ctx} {e : Ex} {ex a b : Expr} {pos : Pos}
theorem Gd.hu (g : Gd G F P wh n c X) : X.A.units + 65 < cLine := by have := g.room.un; omega
theorem Gd.nX (g : Gd G F P wh n c X) : X.N.Nodup := by rw [g.N]; exact g.nd
theorem isVis_ok {k : Option NameKind} (h : isVis k = true) : k = some .local ∨ k = some .cell ∨ k = some .free := by unfold isVis at h; split at h <;> simp_all
theorem isLoc_ok {k : Option NameKind} (h : isLoc k = true) : k = some .local ∨ k = some .cell := by unfold isLoc at h; split at h <;> simp_all
theorem isL_ok {k : Option NameKind} (h : isL k = true) : k = some .local := by unfold isL at h; split at h <;> simp_all
theorem isGl_ok {k : Option NameKind} (h : isGl k = true) : k = some .globalImplicit := by unfold isGl at h; split at h <;> simp_all
theorem ckVar_ok {i : Nat} {x : Str} {p : Pos} (g : Gd G F P wh n c X) (h : ckVar c i x = true) : PE X (.Name x p) (tVar i) := by
  unfold ckVar at h
  simp only [Bool.and_eq_true, decide_eq_true_eq, Bool.not_eq_true'] at h
  obtain ⟨⟨⟨h1, h2⟩, h3⟩, h4⟩ := h
  refine pe_var (by rw [g.N]; exact h1) ?_ h3 h4
  unfold Vis; rw [g.sc]; exact isVis_ok h2
theorem ckGl_ok {x : Str} (g : Gd G F P wh n c X) (h : ckGl c x = true) : Gl X x ∧ (x == ("__debug__" : Str)) = false := by
  unfold ckGl at h
  simp only [Bool.and_eq_true, Bool.not_eq_true'] at h
  refine ⟨?_, h.2⟩
  unfold Gl Env.kindOf
  rw [g.sc]; exact isGl_ok h.1
theorem ckBlt_ok {x : Str} (g : Gd G F P wh n c X) (h : ckBlt G c x = true) : Gl X x ∧ X.mg x = none := by
  unfold ckBlt at h
  simp only [Bool.and_eq_true] at h
  exact ⟨(ckGl_ok g h.1).1, g.blt x h.2⟩
/-- a generic expression -/
theorem Snd.mk1 (h : PE X ex (fE F X.K (evE C e))) (h1 : evO C e = (do let (x, _) ← evE C e; M.pure (.val x))) (h2 : evW C e = (do let (x, fr) ← evE C e; if fr && isRef x then M.pure (.own x) else fail)) (ht : PT X ex (fT F X.K (evT C e)))
    (hb : (∃ op es p, ex = .BoolOp op es p) → PW X ex (fT F X.K (evT C e))) (ns : ∀ x p, ex ≠ .Starred x p) (nsl : ∀ l u s p, ex ≠ .Slice l u s p) (nset : ∀ es k p, ex ≠ .Set es k p) : Snd F C X e ex :=
  ⟨h, by rw [h1]; exact eo_of h, by rw [h2]; exact eo_new h, ht, hb, ns, nsl, nset⟩
theorem Snd.mk2 (h : PE X ex (fE F X.K (evE C e))) (h1 : evO C e = (do let (x, _) ← evE C e; M.pure (.val x))) (h2 : evW C e = (do let (x, fr) ← evE C e; if fr && isRef x then M.pure (.own x) else fail)) (h3 : evT C e = (do let (x, _) ← evE C e; lift (truT x)))
    (he : ∀ whole, isTrue ex X.env whole = (do let v ← whole; standAt ex.pos; holding [v] (truthy v)))
    (hb : ∀ op es p, ex ≠ .BoolOp op es p) (ns : ∀ x p, ex ≠ .Starred x p) (nsl : ∀ l u s p, ex ≠ .Slice l u s p) (nset : ∀ es k p, ex ≠ .Set es k p) : Snd F C X e ex :=
  .mk1 h h1 h2 (by rw [h3]; exact et_truth h he) (fun ⟨op, es, p, z⟩ => absurd z (hb op es p)) ns nsl nset
theorem const_ok {t : T} {k : Const} {m : Nat} {p : Pos} (h : ckConst t k = true) : ∃ v, PE X (.Constant k m p) (tC v) ∧ ∀ Hm, Rp F X.K Hm t v := by
  unfold ckConst at h
  split at h
  · exact ⟨.non, pe_non, fun _ => by simp [Rp]⟩
  · rename_i a b; cases eq_of_beq h; exact ⟨.bl a, pe_bl, fun _ => by simp [Rp]⟩
  · rename_i a b; cases eq_of_beq h; exact ⟨.int a, pe_int, fun _ => by simp [Rp]⟩
  · rename_i a b; cases of_decide_eq_true h; exact ⟨.str a, pe_str, fun _ => by simp [Rp]⟩
  · cases h
theorem fnk_ok {t : T} {f : Nat} (h : ckFnK t = some f) : t = .fn f := by unfold ckFnK at h; split at h <;> simp_all
theorem set_fold {env : PySem.Env} (h : ∀ es k p, ex ≠ .Set es k p) (x : Value) : foldedSetIterable ex env x = pure x := by
  cases ex with
  | Set es k p => exact absurd rfl (h es k p)
  | _ => rfl
theorem owOf_map {N : List Str} : ∀ own : List Nat, (owOf N own).map (·.2) = own
  | [] => rfl
  | i :: own => by
    unfold owOf
    rw [List.map_cons, List.map_cons]
    exact congrArg _ (owOf_map own)
theorem Gd.inner {scope : Scope} {ow : List (Str × Nat)} (g : Gd G F P wh n c X) (ok : BlkOk X.N X.env.scope scope ow) (s : Shared) (H : Hp) (C : Addr) (cl : List (Str × Addr)) (fp : List Addr) :
    Gd G F P wh n (Ev.inner c scope) (X.blk s H scope (compEnvC scope cl C X.env) fp) :=
  ⟨g.N, g.nd, (show relS scope X.env.scope = relS scope c.sc by rw [g.sc]), ok.kind, g.calm, fun _ => rfl, g.room, g.blt, g.fd, g.gl, g.io⟩
theorem isTrue_gen {op : Expr} (h1 : ∀ o a p, op ≠ .UnaryOp o a p) (h2 : ∀ o es p, op ≠ .BoolOp o es p) (h3 : ∀ a b d p, op ≠ .IfExp a b d p) (h4 : ∀ a os bs p, op ≠ .Compare a os bs p) {env : PySem.Env} (whole : Sem Value) : isTrue op env whole = (do let v ← whole; standAt op.pos; holding [v] (truthy v)) := by
  cases op <;> first | rfl | exact absurd rfl (h1 _ _ _) | exact absurd rfl (h2 _ _ _) | exact absurd rfl (h3 _ _ _ _) | exact absurd rfl (h4 _ _ _ _)
end
end Ev

set_option Elab.async false
set_option linter.all false
set_option maxRecDepth 100000
set_option maxHeartbeats 1000000
set_option autoImplicit false
namespace Ev
open PySem PySem.Spec PyProof.Rows L2
open Classical
section
variable {F : Nat → Addr} {G : GC} {P : Prog} {wh n : Nat}
theorem gd_calm_room {c : CC} {X : Cx} (g : Gd G F P wh n c X) : X.calm = true := g.calm
theorem kw_len : ∀ (kws : List Keyword), (∀ k ∈ kws, k.arg.isSome = true) → (kwNames kws).length = kws.length
  | [], _ => rfl
  | k :: kws, h => by
    unfold kwNames
    obtain ⟨x, hx⟩ := Option.isSome_iff_exists.mp (h k List.mem_cons_self)
    rw [List.filterMap_cons_some hx]
    exact congrArg (· + 1) (kw_len kws fun k m => h k (List.mem_cons_of_mem _ m))
theorem kw_names {pos : Pos} {env : PySem.Env} : ∀ (kws : List Keyword), (backToKw pos (keywordEach kws env)).filterMap (·.1) = kwNames kws
  | [] => rfl
  | ⟨nm, v, p⟩ :: kws => by
    have ih := @kw_names pos env kws
    cases nm with
    | none => exact ih
    | some x => exact congrArg (x :: ·) ih
theorem kw_all {pos : Pos} {env : PySem.Env} : ∀ (kws : List Keyword), (∀ k ∈ kws, k.arg.isSome = true) → (backToKw pos (keywordEach kws env)).all (·.1.isSome) = true
  | [], _ => rfl
  | ⟨nm, v, p⟩ :: kws, h => by
    have ih := @kw_all pos env kws fun k m => h k (List.mem_cons_of_mem _ m)
    have h0 : nm.isSome = true := h _ List.mem_cons_self
    show (nm.isSome && (backToKw pos (keywordEach kws env)).all (·.1.isSome)) = true
    rw [h0, ih]; rfl
theorem tys_ok : ∀ (ys : List Ty) (es : List Expr), ckTys ys es = true → Paired (fun e y => ∃ p, e = Expr.Name (PySem.Str.ofString (tyNm y)) p) es ys
  | [], [], _ => .nil
  | [], _ :: _, h => by unfold ckTys at h; cases h
  | _ :: _, [], h => by unfold ckTys at h; cases h
  | y :: ys, e :: es, h => by
    unfold ckTys at h
    simp only [Bool.and_eq_true] at h
    obtain ⟨h1, h2⟩ := h
    split at h1
    · rename_i x p q
      have := of_decide_eq_true h1
      subst this
      exact .cons ⟨p, vName_eq q⟩ (tys_ok ys es h2)
    · cases h1
theorem assign_len {env : PySem.Env} : ∀ es : List Expr, (assignEach es env).length = es.length
  | [] => rfl
  | e :: es => by
    have ih := @assign_len env es
    cases e <;> exact congrArg (· + 1) ih
theorem assign_find {env : PySem.Env} : ∀ es : List Expr, (∀ e ∈ es, ∀ x p, e ≠ Expr.Starred x p) → (assignEach es env).findIdx? (·.1) = none
  | [], _ => rfl
  | e :: es, h => by
    have ih := @assign_find env es fun e m => h e (List.mem_cons_of_mem _ m)
    have h0 := h e List.mem_cons_self
    rw [List.findIdx?_eq_none_iff] at ih ⊢
    have hc : assignEach (e :: es) env = (false, assign e env) :: assignEach es env := by
      cases e with
      | Starred x p => exact absurd rfl (h0 x p)
      | _ => rfl
    rw [hc]
    intro q hq
    rcases List.mem_cons.mp hq with hq | hq
    · rw [hq]
    · exact ih q hq
theorem assign_cons {env : PySem.Env} {e : Expr} {es : List Expr} (h : ∀ x p, e ≠ Expr.Starred x p) : (assignEach (e :: es) env).map (·.2) = assign e env :: (assignEach es env).map (·.2) := by
  cases e with
  | Starred x p => exact absurd rfl (h x p)
  | _ => rfl
theorem ckStp_ok {X : Cx} {k : Int} {st : Expr} (h : ckStp k st = true) : StpE X st k := by
  unfold ckStp at h
  split at h
  · rename_i o a p q; obtain rfl := vUn_eq q
    simp only [Bool.and_eq_true, decide_eq_true_eq] at h
    obtain ⟨⟨rfl, rfl⟩, h⟩ := h
    split at h
    · rename_i z m p2 q2; obtain rfl := vConst_eq q2
      split at h
      · rename_i i
        have : i = 1 := by simpa using h
        subst this
        exact stpM1
      · cases h
    · cases h
  · split at h
    · rename_i z m p2 q2; obtain rfl := vConst_eq q2
      simp only [Bool.and_eq_true, decide_eq_true_eq] at h
      obtain ⟨rfl, h⟩ := h
      cases z with
      | int i =>
        have : i = 2 := by simpa using h
        subst this
        exact stpP2
      | _ => cases h
    · cases h
mutual
theorem sE : ∀ (e : Ex) {c : CC} {X : Cx} {ex : Expr}, Gd G F P wh n c X → ckE G c e ex = true → Snd F (ctx P wh n) X e ex
  | .var i, c, X, ex, g, h => by
    rw [ckE] at h; split at h
    · rename_i x p q; obtain rfl := vName_eq q
      have hv := ckVar_ok (p := p) g h
      refine ⟨by rw [evE_var]; exact ee_var hv, by rw [evO_var]; exact eo_var hv, by rw [evW_var]; exact eo_var hv, by rw [evT_var]; exact et_var hv fun _ => rfl, fun ⟨_, _, _, z⟩ => (nomatch z), (fun _ _ z => nomatch z), (fun _ _ _ _ z => nomatch z), (fun _ _ _ z => nomatch z)⟩
    · cases h
  | .k t, c, X, ex, g, h => by
    rw [ckE] at h; split at h
    · rename_i f q; obtain rfl := fnk_ok q
      split at h
      · rename_i x p q2; obtain rfl := vName_eq q2
        simp only [Bool.and_eq_true, decide_eq_true_eq] at h
        obtain ⟨⟨h1, rfl⟩, h3⟩ := h
        obtain ⟨k1, k2⟩ := ckGl_ok g h1
        obtain ⟨fd, _, hm, _⟩ := (g.fd f h3).ex
        refine .mk2 ?_ evO_k evW_k evT_k (fun _ => rfl) (fun _ _ _ z => nomatch z) (fun _ _ z => nomatch z) (fun _ _ _ _ z => nomatch z) (fun _ _ _ z => nomatch z)
        rw [evE_k]
        exact ee_const (v := .ref (F f)) (pe_glob k1 hm rfl k2) fun Hm => by simp [Rp]
      · cases h
    · split at h
      · rename_i k m p q2; obtain rfl := vConst_eq q2
        obtain ⟨v, h1, h2⟩ := const_ok (F := F) (X := X) (m := m) (p := p) h
        refine .mk2 ?_ evO_k evW_k evT_k (fun _ => rfl) (fun _ _ _ z => nomatch z) (fun _ _ z => nomatch z) (fun _ _ _ _ z => nomatch z) (fun _ _ _ z => nomatch z)
        rw [evE_k]
        exact ee_const h1 h2
      · cases h
  | .glb i, c, X, ex, g, h => by
    rw [ckE] at h; split at h
    · rename_i x p q; obtain rfl := vName_eq q
      simp only [Bool.and_eq_true, decide_eq_true_eq] at h
      obtain ⟨⟨h1, rfl⟩, h3⟩ := h
      obtain ⟨k1, k2⟩ := ckGl_ok g h1
      obtain ⟨t, u, v, e1, e2, e3, e4⟩ := g.gl i h3
      refine .mk2 ?_ evO_glb evW_glb evT_glb (fun _ => rfl) (fun _ _ _ z => nomatch z) (fun _ _ z => nomatch z) (fun _ _ _ _ z => nomatch z) (fun _ _ _ z => nomatch z)
      rw [evE_glb]
      have : (ctx P wh n).glb i = some t := e1
      rw [this]
      exact ee_const (pe_glob k1 e2 e3 k2) e4
    · cases h
  | .bin o a b, c, X, ex, g, h => by
    rw [ckE] at h; split at h
    · rename_i a' o' b' p q; obtain rfl := vBin_eq q
      simp only [Bool.and_eq_true, decide_eq_true_eq] at h
      obtain ⟨⟨rfl, h2⟩, h3⟩ := h
      refine .mk2 ?_ evO_bin evW_bin evT_bin (fun _ => rfl) (fun _ _ _ z => nomatch z) (fun _ _ z => nomatch z) (fun _ _ _ _ z => nomatch z) (fun _ _ _ z => nomatch z)
      rw [evE_bin]
      exact ee_bin (sE a g h2).po (sE b g h3).po
    · cases h
  | .neg a, c, X, ex, g, h => by
    rw [ckE] at h; split at h
    · rename_i o' a' p q; obtain rfl := vUn_eq q
      simp only [Bool.and_eq_true, decide_eq_true_eq] at h
      obtain ⟨rfl, h2⟩ := h
      refine .mk2 ?_ evO_neg evW_neg evT_neg (fun _ => rfl) (fun _ _ _ z => nomatch z) (fun _ _ z => nomatch z) (fun _ _ _ _ z => nomatch z) (fun _ _ _ z => nomatch z)
      rw [evE_neg]
      exact ee_neg (sE a g h2).po
    · cases h
  | .not a, c, X, ex, g, h => by
    rw [ckE] at h; split at h
    · rename_i o' a' p q; obtain rfl := vUn_eq q
      simp only [Bool.and_eq_true, decide_eq_true_eq] at h
      obtain ⟨rfl, h2⟩ := h
      refine .mk1 ?_ evO_not evW_not (by rw [evT_not]; exact et_not (sE a g h2).pt) (fun ⟨_, _, _, z⟩ => nomatch z) (fun _ _ z => nomatch z) (fun _ _ _ _ z => nomatch z) (fun _ _ _ z => nomatch z)
      rw [evE_not]
      exact ee_not (sE a g h2).po
    · cases h
  | .and a b, c, X, ex, g, h => by
    rw [ckE] at h; split at h
    · rename_i o' x y r p q; obtain rfl := vBool_eq q
      simp only [Bool.and_eq_true, decide_eq_true_eq] at h
      obtain ⟨⟨rfl, h2⟩, h3⟩ := h
      have sb := sE b g h3
      have pb : PE X (.BoolOp .And (y :: r) p) (fE F X.K (evE (ctx P wh n) b)) ∧ PW X (.BoolOp .And (y :: r) p) (fT F X.K (evT (ctx P wh n) b)) := by
        cases r with
        | nil => exact ⟨pe_one sb.pe, pw_and1 sb.pt⟩
        | cons z r => exact ⟨sb.pe, sb.pw ⟨_, _, _, rfl⟩⟩
      have w : PW X (.BoolOp .And (x :: y :: r) p) (fT F X.K (evT (ctx P wh n) (.and a b))) := by rw [evT_and]; exact ew_and (sE a g h2).pt pb.2
      refine .mk1 ?_ evO_and evW_and w.pt (fun _ => w) (fun _ _ z => nomatch z) (fun _ _ _ _ z => nomatch z) (fun _ _ _ z => nomatch z)
      rw [evE_and]
      exact ee_and (sE a g h2).pe pb.1
    · cases h
  | .or a b, c, X, ex, g, h => by
    rw [ckE] at h; split at h
    · rename_i o' x y r p q; obtain rfl := vBool_eq q
      simp only [Bool.and_eq_true, decide_eq_true_eq] at h
      obtain ⟨⟨rfl, h2⟩, h3⟩ := h
      have sb := sE b g h3
      have pb : PE X (.BoolOp .Or (y :: r) p) (fE F X.K (evE (ctx P wh n) b)) ∧ PW X (.BoolOp .Or (y :: r) p) (fT F X.K (evT (ctx P wh n) b)) := by
        cases r with
        | nil => exact ⟨pe_one sb.pe, pw_or1 sb.pt⟩
        | cons z r => exact ⟨sb.pe, sb.pw ⟨_, _, _, rfl⟩⟩
      have w : PW X (.BoolOp .Or (x :: y :: r) p) (fT F X.K (evT (ctx P wh n) (.or a b))) := by rw [evT_or]; exact ew_or (sE a g h2).pt pb.2
      refine .mk1 ?_ evO_or evW_or w.pt (fun _ => w) (fun _ _ z => nomatch z) (fun _ _ _ _ z => nomatch z) (fun _ _ _ z => nomatch z)
      rw [evE_or]
      exact ee_or (sE a g h2).pe pb.1
    · cases h
  | .cmp o a b, c, X, ex, g, h => by
    rw [ckE] at h; split at h
    · rename_i a' o' b' p q; obtain rfl := vCmp_eq q
      simp only [Bool.and_eq_true, decide_eq_true_eq, Bool.not_eq_true'] at h
      obtain ⟨⟨⟨rfl, h1⟩, h2⟩, h3⟩ := h
      have e0 : evE (ctx P wh n) (.cmp o a b) = (do let x ← evO (ctx P wh n) a; let y ← evO (ctx P wh n) b; let x ← res x; let y ← res y; lift ((cmpF o x y).map fun z => (T.bl z, false))) := by rw [evE_cmp]
      refine .mk1 (by rw [e0]; exact ee_cmp g.hu h1 (sE a g h2).po (sE b g h3).po) evO_cmp evW_cmp ?_ (fun ⟨_, _, _, z⟩ => nomatch z) (fun _ _ z => nomatch z) (fun _ _ _ _ z => nomatch z) (fun _ _ _ z => nomatch z)
      rw [evT_cmp, e0]
      exact et_cmp g.hu h1 (sE a g h2).po (sE b g h3).po
    · cases h
  | .chn o o2 a b d, c, X, ex, g, h => by
    rw [ckE] at h; split at h
    · rename_i a' p1 p2 b' d' p q; obtain rfl := vChn_eq q
      simp only [Bool.and_eq_true, decide_eq_true_eq, Bool.not_eq_true'] at h
      obtain ⟨⟨⟨⟨⟨rfl, rfl⟩, h1⟩, h2⟩, h3⟩, h4⟩ := h
      have e0 : evE (ctx P wh n) (.chn o o2 a b d) = chainM o o2 (evO (ctx P wh n) a) (evO (ctx P wh n) b) (evO (ctx P wh n) d) := by rw [evE_chn]; rfl
      refine .mk1 (by rw [e0]; exact ee_chn g.hu h1 (sE a g h2).po (sE b g h3).po (sE d g h4).po) evO_chn evW_chn ?_ (fun ⟨_, _, _, z⟩ => nomatch z) (fun _ _ z => nomatch z) (fun _ _ _ _ z => nomatch z) (fun _ _ _ z => nomatch z)
      rw [evT_chn, e0]
      exact et_chn g.hu h1 (sE a g h2).po (sE b g h3).po (sE d g h4).po
    · cases h
  | .ite t a b, c, X, ex, g, h => by
    rw [ckE] at h; split at h
    · rename_i t' a' b' p q; obtain rfl := vIf_eq q
      simp only [Bool.and_eq_true] at h
      obtain ⟨⟨h1, h2⟩, h3⟩ := h
      refine .mk1 (by rw [evE_ite]; exact ee_ite (sE t g h1).pt (sE a g h2).pe (sE b g h3).pe) evO_ite evW_ite (by rw [evT_ite]; exact et_ite (sE t g h1).pt (sE a g h2).pt (sE b g h3).pt) (fun ⟨_, _, _, z⟩ => nomatch z) (fun _ _ z => nomatch z) (fun _ _ _ _ z => nomatch z) (fun _ _ _ z => nomatch z)
    · cases h
  | .tup es, c, X, ex, g, h => by
    rw [ckE] at h; split at h
    · rename_i es' k p q; obtain rfl := vTup_eq q
      simp only [Bool.and_eq_true, decide_eq_true_eq] at h
      obtain ⟨h1, h2⟩ := h
      refine .mk2 ?_ evO_tup evW_tup evT_tup (fun _ => rfl) (fun _ _ _ z => nomatch z) (fun _ _ z => nomatch z) (fun _ _ _ _ z => nomatch z) (fun _ _ _ z => nomatch z)
      rw [evE_tup]
      exact ee_tup (fun env ts env' hh => by rw [evEs_len es hh]; exact Nat.le_trans h1 (by decide)) (sEs es g h2).pl
    · cases h
  | .lst es, c, X, ex, g, h => by
    rw [ckE] at h; split at h
    · rename_i es' p q; obtain rfl := vLst_eq q
      simp only [Bool.and_eq_true, decide_eq_true_eq] at h
      obtain ⟨h1, h2⟩ := h
      refine .mk2 ?_ evO_lst evW_lst evT_lst (fun _ => rfl) (fun _ _ _ z => nomatch z) (fun _ _ z => nomatch z) (fun _ _ _ _ z => nomatch z) (fun _ _ _ z => nomatch z)
      rw [evE_lst]
      exact ee_lst (fun env ts env' hh => by rw [evEs_len es hh]; exact Nat.le_trans h1 (by decide)) (sEs es g h2).pl
    · cases h
  | .idx a b, c, X, ex, g, h => by
    rw [ckE] at h; split at h
    · rename_i a' b' p q; obtain rfl := vSub_eq q
      simp only [Bool.and_eq_true] at h
      obtain ⟨h1, h2⟩ := h
      refine .mk2 ?_ evO_idx evW_idx evT_idx (fun _ => rfl) (fun _ _ _ z => nomatch z) (fun _ _ z => nomatch z) (fun _ _ _ _ z => nomatch z) (fun _ _ _ z => nomatch z)
      rw [evE_idx]
      exact ee_idx (plainIx_of (sE b g h2).nsl) (sE a g h1).po (sE b g h2).po
    · cases h
  | .slc a lo hi, c, X, ex, g, h => by
    rw [ckE] at h; split at h
    · rename_i a' s p q; obtain rfl := vSub_eq q
      split at h
      · rename_i lo' hi' p2 q2; obtain rfl := vSlc_eq q2
        simp only [Bool.and_eq_true] at h
        obtain ⟨⟨h1, h2⟩, h3⟩ := h
        refine .mk2 ?_ evO_slc evW_slc evT_slc (fun _ => rfl) (fun _ _ _ z => nomatch z) (fun _ _ z => nomatch z) (fun _ _ _ _ z => nomatch z) (fun _ _ _ z => nomatch z)
        rw [evE_slc]
        exact ee_slc (sE a g h1).po (sO lo g h2) (sO hi g h3)
      · cases h
    · cases h
  | .call f es, c, X, ex, g, h => by
    rw [ckE] at h; split at h
    · rename_i x p es' kws p2 q; obtain rfl := vCall_eq q
      simp only [Bool.and_eq_true, decide_eq_true_eq, List.isEmpty_iff] at h
      obtain ⟨⟨⟨⟨rfl, h1⟩, rfl⟩, h3⟩, h4⟩ := h
      obtain ⟨k1, k2⟩ := ckGl_ok g h1
      have D := g.fd f h3
      have se := sEs es g h4
      refine .mk2 ?_ evO_call evW_call evT_call (fun _ => rfl) (fun _ _ _ z => nomatch z) (fun _ _ z => nomatch z) (fun _ _ _ _ z => nomatch z) (fun _ _ _ z => nomatch z)
      rw [evE_call]
      cases es' with
      | cons e' es' => exact ee_call D g.room k1 k2 rfl rfl (fun env os env' hh i o z ne => (evA_len es hh).2 i o z (by rw [Nat.zero_add]; exact ne)) se.ns (se.pa _ 0)
      | nil =>
        cases es with
        | nil => rw [evA_nil]; exact ee_call0 D g.room k1 k2 rfl rfl
        | cons e es => cases se.len
    · cases h
  | .callk f es ks perm, c, X, ex, g, h => by
    rw [ckE] at h; split at h
    · rename_i x p es' kws p2 q; obtain rfl := vCall_eq q
      simp only [Bool.and_eq_true, decide_eq_true_eq, Option.isNone_iff_eq_none, List.all_eq_true] at h
      obtain ⟨⟨⟨⟨⟨⟨⟨h1, rfl⟩, h3⟩, h4⟩, h5⟩, h6⟩, h7⟩, h8⟩ := h
      obtain ⟨k1, k2⟩ := ckGl_ok g h1
      have D := g.fd f h3
      have se := sEs es g h7
      obtain ⟨kl, kn, kp⟩ := sKs ks g h8
      have hno : (ctx P wh n).io f = none := by show ioOf P f = none; rw [← g.io]; exact h4
      refine .mk2 ?_ evO_callk evW_callk evT_callk (fun _ => rfl) (fun _ _ _ z => nomatch z) (fun _ _ z => nomatch z) (fun _ _ _ _ z => nomatch z) (fun _ _ _ z => nomatch z)
      rw [evE_callk]
      refine ee_callk D g.room k1 k2 h6 rfl rfl hno (fun env os env' hh => ?_) (fun env os env' hh => ?_) se.ns (se.pa _ 0) (fun hz => ?_) (kp 0) ?_ ?_
      · obtain ⟨l1, l2⟩ := evA_len es hh
        refine ⟨l1, fun o ho => ?_⟩
        obtain ⟨i, hi⟩ := List.getElem?_of_mem ho
        exact l2 i o hi (fun z => nomatch z)
      · obtain ⟨l1, l2⟩ := evA_len ks hh
        refine ⟨?_, fun o ho => ?_⟩
        · rw [l1, ← kl]
          exact (kw_len kws h5).symm
        · obtain ⟨i, hi⟩ := List.getElem?_of_mem ho
          exact l2 i o hi (fun z => nomatch z)
      · subst hz
        cases es with
        | nil => exact ⟨by rw [evA_nil], rfl⟩
        | cons e es => cases se.len
      · exact kw_names kws
      · exact kw_all kws h5
    · cases h
  | .bif bi es, c, X, ex, g, h => by
    rw [ckE] at h; split at h
    · rename_i x p es' kws p2 q; obtain rfl := vCall_eq q
      simp only [Bool.and_eq_true, decide_eq_true_eq, List.isEmpty_iff] at h
      obtain ⟨⟨⟨⟨rfl, h1⟩, rfl⟩, h3⟩, h4⟩ := h
      obtain ⟨k1, k2⟩ := ckBlt_ok g h1
      have se := sEs es g h4
      refine .mk2 ?_ evO_bif evW_bif evT_bif (fun _ => rfl) (fun _ _ _ z => nomatch z) (fun _ _ z => nomatch z) (fun _ _ _ _ z => nomatch z) (fun _ _ _ z => nomatch z)
      rw [evE_bif]
      cases es' with
      | cons e' es' => exact ee_bifAll g.hu g.calm k1 k2 se.ns (by rw [← h3.1]; exact h3.2) se.ps
      | nil =>
        have := se.len
        rw [← this] at h3
        exact absurd h3.2 (by simp)
    · cases h
  | .isi a ts, c, X, ex, g, h => by
    rw [ckE] at h; split at h
    · rename_i x p es' kws p2 q; obtain rfl := vCall_eq q
      simp only [Bool.and_eq_true, decide_eq_true_eq, List.isEmpty_iff, List.all_eq_true] at h
      obtain ⟨⟨⟨⟨⟨rfl, h1⟩, rfl⟩, h3⟩, h4⟩, h5⟩ := h
      obtain ⟨k1, k2⟩ := ckBlt_ok g h1
      split at h5
      · rename_i a' t'
        simp only [Bool.and_eq_true] at h5
        obtain ⟨h5, h6⟩ := h5
        have sa := sE a g h5
        refine .mk2 ?_ evO_isi evW_isi evT_isi (fun _ => rfl) (fun _ _ _ z => nomatch z) (fun _ _ z => nomatch z) (fun _ _ _ _ z => nomatch z) (fun _ _ _ z => nomatch z)
        rw [evE_isi]
        split at h6
        · rename_i us k p3 q3; obtain rfl := vTup_eq q3
          exact ee_isiT h3 k1 k2 (tys_ok ts us h6) (fun y hy => ckBlt_ok g (h4 y hy)) sa.ns sa.po
        · simp only [Bool.and_eq_true, decide_eq_true_eq] at h6
          obtain ⟨h6, h7⟩ := h6
          match ts, h6 with
          | [y], _ =>
            have hp := tys_ok [y] [t'] h7
            cases hp with
            | cons r _ =>
              obtain ⟨p4, rfl⟩ := r
              obtain ⟨k3, k4⟩ := ckBlt_ok g (h4 y List.mem_cons_self)
              exact ee_isi k1 k2 k3 k4 sa.ns sa.po
      · cases h5
    · cases h
  | .lrng tp r, c, X, ex, g, h => by
    rw [ckE] at h; split at h
    · rename_i x p es' kws p2 q; obtain rfl := vCall_eq q
      simp only [Bool.and_eq_true, decide_eq_true_eq, List.isEmpty_iff] at h
      obtain ⟨⟨⟨rfl, h1⟩, rfl⟩, h3⟩ := h
      obtain ⟨k1, k2⟩ := ckBlt_ok g h1
      split at h3
      · rename_i it
        refine .mk2 ?_ evO_lrng evW_lrng evT_lrng (fun _ => rfl) (fun _ _ _ z => nomatch z) (fun _ _ z => nomatch z) (fun _ _ _ _ z => nomatch z) (fun _ _ _ z => nomatch z)
        rw [evE_lrng]
        exact sRng r tp g h3 k1 k2
      · cases h3
    · cases h
  | .comp elt tg it ifs own, c, X, ex, g, h => by
    rw [ckE] at h; split at h
    · rename_i elt' tg' it' ifs' scope p q; obtain rfl := vComp_eq q
      simp only [Bool.and_eq_true, decide_eq_true_eq] at h
      obtain ⟨⟨⟨⟨⟨h1, h2⟩, h3⟩, h4⟩, h5⟩, h6⟩ := h
      have ok : BlkOk X.N X.env.scope scope (owOf c.N own) := by rw [g.N, g.sc]; exact blkOk_by h1
      obtain ⟨i1, i2⟩ := sIt it g h2
      refine .mk2 ?_ evO_comp evW_comp evT_comp (fun _ => rfl) (fun _ _ _ z => nomatch z) (fun _ _ z => nomatch z) (fun _ _ _ _ z => nomatch z) (fun _ _ _ z => nomatch z)
      have := ee_comp (pos := p) g.calm g.nX i1 ok (fun s H C cl fp => (sG tg (g.inner ok s H C cl fp) (sl := (· ∈ (owOf c.N own).map (·.2))) (fun i hi => by rw [owOf_map]; simpa [subOwn] using hi) h3).1) (fun s H C cl fp => (sEs ifs (g.inner ok s H C cl fp) h5).pts h4) (fun s H C cl fp => (sE elt (g.inner ok s H C cl fp) h6).pe) (set_fold i2)
      rw [owOf_map] at this
      rw [evE_comp]
      exact this
    · cases h
  | .comp2 elt tg it ifs tg1 it1 ifs1 own own1, c, X, ex, g, h => by
    rw [ckE] at h; split at h
    · rename_i elt' tg' it' ifs' tg1' it1' ifs1' scope p q; obtain rfl := vComp2_eq q
      simp only [Bool.and_eq_true, decide_eq_true_eq, List.all_eq_true] at h
      obtain ⟨⟨⟨⟨⟨⟨⟨⟨⟨⟨h1, h0⟩, h2⟩, h3⟩, h4⟩, h5⟩, j2⟩, j3⟩, j4⟩, j5⟩, h6⟩ := h
      have ok : BlkOk X.N X.env.scope scope (owOf c.N own) := by rw [g.N, g.sc]; exact blkOk_by h1
      obtain ⟨i1, i2⟩ := sIt it g h2
      have hv : ∀ i ∈ own1, i ∈ (owOf c.N own).map (·.2) := fun i hi => by rw [owOf_map]; simpa using h0 i hi
      refine .mk2 ?_ evO_comp2 evW_comp2 evT_comp2 (fun _ => rfl) (fun _ _ _ z => nomatch z) (fun _ _ z => nomatch z) (fun _ _ _ _ z => nomatch z) (fun _ _ _ z => nomatch z)
      have := ee_comp2 (pos := p) g.calm g.nX i1 ok hv (fun s H C cl fp => (sG tg (g.inner ok s H C cl fp) (sl := (· ∈ (owOf c.N own).map (·.2))) (fun i hi => by rw [owOf_map]; simpa [subOwn] using hi) h3).1) (fun s H C cl fp => (sEs ifs (g.inner ok s H C cl fp) h5).pts h4)
        (fun s H C cl fp => (sIt it1 (g.inner ok s H C cl fp) j2).1) (fun s H C cl fp => (sG tg1 (g.inner ok s H C cl fp) (sl := (· ∈ own1)) (fun i hi => by simpa [subOwn] using hi) j3).1) (fun s H C cl fp => (sEs ifs1 (g.inner ok s H C cl fp) j5).pts j4)
        (fun s H C cl fp => (sE elt (g.inner ok s H C cl fp) h6).pe) (set_fold i2) (fun env => set_fold (sIt it1 (g.inner ok X.s_0 X.H_0 0 [] []) j2).2)
      rw [owOf_map] at this
      rw [evE_comp2]
      exact this
    · cases h
  | .app i e, c, X, ex, g, h => by
    rw [ckE] at h; split at h
    · rename_i o m ap es' cp q; obtain rfl := vMeth_eq q
      simp only [Bool.and_eq_true, decide_eq_true_eq] at h
      obtain ⟨⟨⟨rfl, h1⟩, h2⟩, h3⟩ := h
      split at h2
      · rename_i x p q2; obtain rfl := vName_eq q2
        split at h3
        · rename_i e'
          refine .mk2 ?_ evO_app evW_app evT_app (fun _ => rfl) (fun _ _ _ z => nomatch z) (fun _ _ z => nomatch z) (fun _ _ _ _ z => nomatch z) (fun _ _ _ z => nomatch z)
          rw [evE_app]
          exact ee_app (ckVar_ok g h2) (sE e g h3).ns h1 (sE e g h3).pe
        · cases h3
      · cases h2
    · cases h
  | .ext i e, c, X, ex, g, h => by
    rw [ckE] at h; split at h
    · rename_i o m ap es' cp q; obtain rfl := vMeth_eq q
      simp only [Bool.and_eq_true, decide_eq_true_eq] at h
      obtain ⟨⟨⟨rfl, h1⟩, h2⟩, h3⟩ := h
      split at h2
      · rename_i x p q2; obtain rfl := vName_eq q2
        split at h3
        · rename_i e'
          refine .mk2 ?_ evO_ext evW_ext evT_ext (fun _ => rfl) (fun _ _ _ z => nomatch z) (fun _ _ z => nomatch z) (fun _ _ _ _ z => nomatch z) (fun _ _ _ z => nomatch z)
          rw [evE_ext]
          exact ee_ext (ckVar_ok g h2) (sE e g h3).ns h1 (sE e g h3).pe
        · cases h3
      · cases h2
    · cases h
  | .pop i eo, c, X, ex, g, h => by
    rw [ckE] at h; split at h
    · rename_i o m ap es' cp q; obtain rfl := vMeth_eq q
      simp only [Bool.and_eq_true, decide_eq_true_eq] at h
      obtain ⟨⟨⟨rfl, h1⟩, h2⟩, h3⟩ := h
      split at h2
      · rename_i x p q2; obtain rfl := vName_eq q2
        refine .mk2 ?_ evO_pop evW_pop evT_pop (fun _ => rfl) (fun _ _ _ z => nomatch z) (fun _ _ z => nomatch z) (fun _ _ _ _ z => nomatch z) (fun _ _ _ z => nomatch z)
        rw [evE_pop]
        split at h3
        · match eo, h3 with
          | .none, _ => rw [evI_none]; exact ee_pop0 (ckVar_ok g h2) h1
          | .some e, h3 => exact (show False by rw [ckO] at h3; cases h3).elim
        · rename_i e'
          match eo, h3 with
          | .none, h3 => exact (show False by rw [ckO] at h3; cases h3).elim
          | .some e, h3 =>
            have h4 : ckE G c e e' = true := by rw [ckO] at h3; exact h3
            rw [evI_some]
            exact ee_pop1 (ckVar_ok g h2) (sE e g h4).ns h1 (sE e g h4).po
        · cases h3
      · cases h2
    · cases h
  | .ins i a b, c, X, ex, g, h => by
    rw [ckE] at h; cases h
  | .ixof a b, c, X, ex, g, h => by
    rw [ckE] at h; split at h
    · rename_i o m ap es' cp q; obtain rfl := vMeth_eq q
      simp only [Bool.and_eq_true, decide_eq_true_eq] at h
      obtain ⟨⟨⟨⟨rfl, h1⟩, h2⟩, h3⟩, h4⟩ := h
      split at h4
      · rename_i e'
        refine .mk2 ?_ evO_ixof evW_ixof evT_ixof (fun _ => rfl) (fun _ _ _ z => nomatch z) (fun _ _ z => nomatch z) (fun _ _ _ _ z => nomatch z) (fun _ _ _ z => nomatch z)
        rw [evE_ixof]
        obtain ⟨⟨x, p⟩, hx⟩ := Option.isSome_iff_exists.mp h2
        obtain rfl := vName_eq hx
        exact ee_ixof g.hu rfl (sE b g h4).ns h1 (sE a g h3).po (sE b g h4).po
      · cases h4
    · cases h
  | .stp a k, c, X, ex, g, h => by
    rw [ckE] at h; split at h
    · rename_i a' s p q; obtain rfl := vSub_eq q
      split at h
      · rename_i st p2 q2; obtain rfl := vStp_eq q2
        simp only [Bool.and_eq_true] at h
        obtain ⟨h1, h2⟩ := h
        refine .mk2 ?_ evO_stp evW_stp evT_stp (fun _ => rfl) (fun _ _ _ z => nomatch z) (fun _ _ z => nomatch z) (fun _ _ _ _ z => nomatch z) (fun _ _ _ z => nomatch z)
        rw [evE_stp]
        exact ee_stp (sE a g h1).po (ckStp_ok h2)
      · cases h
    · cases h
  | .lset a, c, X, ex, g, h => by
    rw [ckE] at h; split at h
    · rename_i x p es' kws p2 q; obtain rfl := vCall_eq q
      simp only [Bool.and_eq_true, decide_eq_true_eq, List.isEmpty_iff] at h
      obtain ⟨⟨⟨rfl, h1⟩, rfl⟩, h2⟩ := h
      split at h2
      · rename_i e'
        split at h2
        · rename_i y p3 es2 kws2 p4 q2; obtain rfl := vCall_eq q2
          simp only [Bool.and_eq_true, decide_eq_true_eq, List.isEmpty_iff] at h2
          obtain ⟨⟨⟨rfl, h3⟩, rfl⟩, h4⟩ := h2
          split at h4
          · rename_i a'
            obtain ⟨k1, k2⟩ := ckBlt_ok g h1
            obtain ⟨k3, k4⟩ := ckBlt_ok g h3
            refine .mk2 ?_ evO_lset evW_lset evT_lset (fun _ => rfl) (fun _ _ _ z => nomatch z) (fun _ _ z => nomatch z) (fun _ _ _ _ z => nomatch z) (fun _ _ _ z => nomatch z)
            rw [evE_lset]
            exact ee_lset k1 k2 k3 k4 g.calm (sE a g h4).ns (sE a g h4).po
          · cases h4
        · cases h2
      · cases h2
    · cases h
  | .callv i fs es, c, X, ex, g, h => by
    rw [ckE] at h; split at h
    · rename_i x p es' kws p2 q; obtain rfl := vCall_eq q
      simp only [Bool.and_eq_true, List.isEmpty_iff, Bool.not_eq_true', List.all_eq_true] at h
      obtain ⟨⟨⟨⟨rfl, h1⟩, h2⟩, h3⟩, h4⟩ := h
      have se := sEs es g h4
      refine .mk2 ?_ evO_callv evW_callv evT_callv (fun _ => rfl) (fun _ _ _ z => nomatch z) (fun _ _ z => nomatch z) (fun _ _ _ _ z => nomatch z) (fun _ _ _ z => nomatch z)
      rw [evE_callv]
      unfold ckVar at h1
      simp only [Bool.and_eq_true, decide_eq_true_eq, Bool.not_eq_true'] at h1
      obtain ⟨⟨⟨k1, k2⟩, k3⟩, k4⟩ := h1
      cases es' with
      | nil => cases h3
      | cons e' es' =>
        exact ee_callv (fun f hf => ⟨_, _, g.fd f (h2 f (List.contains_iff_mem.mp hf))⟩) g.room (by rw [g.N]; exact k1) (by unfold Vis; rw [g.sc]; exact isVis_ok k2) k3 k4 rfl rfl (fun env os env' hh i o z => (evA_len es hh).2 i o z (fun w => nomatch w)) se.ns (se.pa none 0)
    · cases h
theorem sEs : ∀ (es : Exs) {c : CC} {X : Cx} {exs : List Expr}, Gd G F P wh n c X → ckEs G c es exs = true → SndL F (ctx P wh n) X es exs
  | .nil, c, X, exs, g, h => by
    rw [ckEs] at h
    obtain rfl := List.isEmpty_iff.mp h
    refine ⟨rfl, by rw [evEs_nil]; exact ea_nil, by rw [evOs_nil]; exact eo_nil, fun io j => by rw [evA_nil]; exact eo_nil, (fun e' m => by cases m), fun _ => by rw [evTs_nil]; exact pts0⟩
  | .cons e es, c, X, [], g, h => by rw [ckEs] at h; cases h
  | .cons e es, c, X, e' :: r, g, h => by
    rw [ckEs] at h
    · skip
      simp only [Bool.and_eq_true] at h
      have a := sE e g h.1
      have b := sEs es g h.2
      refine ⟨by simp [b.len, Exs.len], by rw [evEs_cons]; exact ea_cons (starEach_cons a.ns) a.pe b.pl, by rw [evOs_cons]; exact eo_cons (starEach_cons a.ns) a.po b.ps, fun io j => ?_, fun e'' m => ?_, fun hl => ?_⟩
      · rw [evA_cons]
        by_cases q : io = some j
        · simp only [if_pos q]; exact eo_cons (starEach_cons a.ns) a.pa (b.pa io (j + 1))
        · simp only [if_neg q]; exact eo_cons (starEach_cons a.ns) (eo_of a.pe) (b.pa io (j + 1))
      · rcases List.mem_cons.mp m with rfl | m
        · exact a.ns
        · exact b.ns e'' m
      · cases es with
        | nil =>
          have := b.len
          obtain rfl := List.eq_nil_of_length_eq_zero this
          rw [evTs_cons, evTs_nil]
          exact pts1 a.pt
        | cons e2 es => simp [Exs.len] at hl
theorem sKs : ∀ (es : Exs) {c : CC} {X : Cx} {kws : List Keyword}, Gd G F P wh n c X → ckKs G c es kws = true → kws.length = es.len ∧ True ∧ ∀ j, PK X kws (fOs F X.K (evA (ctx P wh n) none j es))
  | .nil, c, X, kws, g, h => by
    rw [ckKs] at h
    obtain rfl := List.isEmpty_iff.mp h
    exact ⟨rfl, trivial, fun j => by rw [evA_nil]; exact ek_nil⟩
  | .cons e es, c, X, [], g, h => by rw [ckKs] at h; cases h
  | .cons e es, c, X, ⟨nm, e', p⟩ :: r, g, h => by
    rw [ckKs] at h
    · skip
      simp only [Bool.and_eq_true] at h
      have a := sE e g h.1
      obtain ⟨b1, _, b3⟩ := sKs es g h.2
      refine ⟨by simp [b1, Exs.len], trivial, fun j => ?_⟩
      rw [evA_cons]
      simp only [if_neg (show ¬ (none : Option Nat) = some j from fun z => nomatch z)]
      exact ek_cons (eo_of a.pe) (b3 (j + 1))
theorem sO : ∀ (e : Exo) {c : CC} {X : Cx} {ex : Option Expr}, Gd G F P wh n c X → ckO G c e ex = true → L2.PO X ex (fI F X.K (evI (ctx P wh n) e))
  | .none, c, X, ex, g, h => by
    rw [ckO] at h
    obtain rfl := Option.isNone_iff_eq_none.mp h
    rw [evI_none]; exact ei_none
  | .some e, c, X, none, g, h => by rw [ckO] at h; cases h
  | .some e, c, X, some ex, g, h => by
    rw [ckO] at h
    rw [evI_some]; exact ei_some (sE e g h).po
theorem sIt : ∀ (it : It) {c : CC} {X : Cx} {tg ex : Expr}, Gd G F P wh n c X → ckIt G c it tg ex = true → PI X tg ex (fIt F X.K (evIt (ctx P wh n) it)) ∧ ∀ es k p, ex ≠ .Set es k p
  | .ex e, c, X, tg, ex, g, h => by
    rw [ckIt] at h
    rw [evIt_ex]
    exact ⟨ei_seq (sE e g h).pe, (sE e g h).nset⟩
  | .r1 a, c, X, tg, ex, g, h => by
    rw [ckIt] at h; split at h
    · rename_i x p es' kws p2 q; obtain rfl := vCall_eq q
      simp only [Bool.and_eq_true, decide_eq_true_eq, List.isEmpty_iff] at h
      obtain ⟨⟨⟨rfl, h1⟩, rfl⟩, h3⟩ := h
      obtain ⟨k1, k2⟩ := ckBlt_ok g h1
      split at h3
      · rename_i a'
        rw [evIt_r1]
        exact ⟨ei_r1 (sE a g h3).ns k1 k2 (sE a g h3).po, fun _ _ _ z => nomatch z⟩
      · cases h3
    · cases h
  | .r2 a b, c, X, tg, ex, g, h => by
    rw [ckIt] at h; split at h
    · rename_i x p es' kws p2 q; obtain rfl := vCall_eq q
      simp only [Bool.and_eq_true, decide_eq_true_eq, List.isEmpty_iff] at h
      obtain ⟨⟨⟨rfl, h1⟩, rfl⟩, h3⟩ := h
      obtain ⟨k1, k2⟩ := ckBlt_ok g h1
      split at h3
      · rename_i a' b'
        simp only [Bool.and_eq_true] at h3
        rw [evIt_r2]
        exact ⟨ei_r2 (sE a g h3.1).ns (sE b g h3.2).ns k1 k2 (sE a g h3.1).po (sE b g h3.2).po, fun _ _ _ z => nomatch z⟩
      · cases h3
    · cases h
  | .r3 a b d, c, X, tg, ex, g, h => by
    rw [ckIt] at h; split at h
    · rename_i x p es' kws p2 q; obtain rfl := vCall_eq q
      simp only [Bool.and_eq_true, decide_eq_true_eq, List.isEmpty_iff] at h
      obtain ⟨⟨⟨rfl, h1⟩, rfl⟩, h3⟩ := h
      obtain ⟨k1, k2⟩ := ckBlt_ok g h1
      split at h3
      · rename_i a' b' d'
        simp only [Bool.and_eq_true] at h3
        rw [evIt_r3]
        exact ⟨ei_r3 (sE a g h3.1.1).ns (sE b g h3.1.2).ns (sE d g h3.2).ns k1 k2 (sE a g h3.1.1).po (sE b g h3.1.2).po (sE d g h3.2).po, fun _ _ _ z => nomatch z⟩
      · cases h3
    · cases h
  | .enum a, c, X, tg, ex, g, h => by
    rw [ckIt] at h; split at h
    · rename_i x p es' kws p2 q; obtain rfl := vCall_eq q
      simp only [Bool.and_eq_true, decide_eq_true_eq, List.isEmpty_iff] at h
      obtain ⟨⟨⟨⟨h0, rfl⟩, h1⟩, rfl⟩, h3⟩ := h
      obtain ⟨k1, k2⟩ := ckBlt_ok g h1
      obtain ⟨⟨us, k, p3⟩, hx⟩ := Option.isSome_iff_exists.mp h0
      obtain rfl := vTup_eq hx
      split at h3
      · rename_i a'
        rw [evIt_enum]
        exact ⟨ei_enum (sE a g h3).ns k1 k2 (sE a g h3).pe, fun _ _ _ z => nomatch z⟩
      · cases h3
    · cases h
  | .zip a b, c, X, tg, ex, g, h => by
    rw [ckIt] at h; split at h
    · rename_i x p es' kws p2 q; obtain rfl := vCall_eq q
      simp only [Bool.and_eq_true, decide_eq_true_eq, List.isEmpty_iff] at h
      obtain ⟨⟨⟨⟨h0, rfl⟩, h1⟩, rfl⟩, h3⟩ := h
      obtain ⟨k1, k2⟩ := ckBlt_ok g h1
      obtain ⟨⟨us, k, p3⟩, hx⟩ := Option.isSome_iff_exists.mp h0
      obtain rfl := vTup_eq hx
      split at h3
      · rename_i a' b'
        simp only [Bool.and_eq_true] at h3
        rw [evIt_zip]
        exact ⟨ei_zip (sE a g h3.1).ns (sE b g h3.2).ns k1 k2 (sE a g h3.1).pe (sE b g h3.2).pe, fun _ _ _ z => nomatch z⟩
      · cases h3
    · cases h
theorem sRng : ∀ (it : It) (tp : Bool) {c : CC} {X : Cx} {ex : Expr} {p pos : Pos}, Gd G F P wh n c X → ckRng G c it ex = true → Gl X (if tp then ("tuple" : Str) else "list") → X.mg (if tp then ("tuple" : Str) else "list") = none →
    PE X (.Call (.Name (if tp then ("tuple" : Str) else "list") p) [ex] [] pos) (fE F X.K (do let xs ← evIt (ctx P wh n) it; M.pure (if tp then .tup xs else .lst xs, !tp)))
  | .r1 a, tp, c, X, ex, p0, pos0, g, h, k3, k4 => by
    rw [ckRng] at h; split at h
    · rename_i x p es' kws p2 q; obtain rfl := vCall_eq q
      simp only [Bool.and_eq_true, decide_eq_true_eq, List.isEmpty_iff] at h
      obtain ⟨⟨⟨rfl, h1⟩, rfl⟩, h3⟩ := h
      obtain ⟨k1, k2⟩ := ckBlt_ok g h1
      split at h3
      · rename_i a'
        rw [evIt_r1]
        exact ee_lrng1 tp (sE a g h3).ns g.calm k1 k2 k3 k4 (sE a g h3).po
      · cases h3
    · cases h
  | .r2 a b, tp, c, X, ex, p0, pos0, g, h, k3, k4 => by
    rw [ckRng] at h; split at h
    · rename_i x p es' kws p2 q; obtain rfl := vCall_eq q
      simp only [Bool.and_eq_true, decide_eq_true_eq, List.isEmpty_iff] at h
      obtain ⟨⟨⟨rfl, h1⟩, rfl⟩, h3⟩ := h
      obtain ⟨k1, k2⟩ := ckBlt_ok g h1
      split at h3
      · rename_i a' b'
        simp only [Bool.and_eq_true] at h3
        rw [evIt_r2]
        exact ee_lrng2 tp (sE a g h3.1).ns (sE b g h3.2).ns g.calm k1 k2 k3 k4 (sE a g h3.1).po (sE b g h3.2).po
      · cases h3
    · cases h
  | .ex _, tp, c, X, ex, p0, pos0, g, h, k3, k4 => by rw [ckRng] at h; cases h
  | .r3 _ _ _, tp, c, X, ex, p0, pos0, g, h, k3, k4 => by rw [ckRng] at h; cases h
  | .enum _, tp, c, X, ex, p0, pos0, g, h, k3, k4 => by rw [ckRng] at h; cases h
  | .zip _ _, tp, c, X, ex, p0, pos0, g, h, k3, k4 => by rw [ckRng] at h; cases h
theorem sG : ∀ (tg : Tg) {c : CC} {X : Cx} {ex : Expr} {own : Option (List Nat)} {sl : Nat → Prop}, Gd G F P wh n c X → (∀ i, subOwn own i = true → sl i) → ckG G c own tg ex = true → PG X ex (fG F X.K sl fun r => evG (ctx P wh n) tg r.1 (r.2 && isRef r.1)) ∧ ∀ x p, ex ≠ .Starred x p
  | .nm i, c, X, ex, own, sl, g, hs, h => by
    rw [ckG] at h; split at h
    · rename_i x p q; obtain rfl := vName_eq q
      simp only [Bool.and_eq_true, decide_eq_true_eq, Bool.or_eq_true] at h
      obtain ⟨⟨⟨h1, h2⟩, h3⟩, h4⟩ := h
      have e0 : (fun r : T × Bool => evG (ctx P wh n) (.nm i) r.1 (r.2 && isRef r.1)) = fun r => bnd i r.1 (r.2 && isRef r.1) := by funext r; rw [evG]
      rw [e0]
      refine ⟨eg_name (hs i h4) (pg_name g.nX (by rw [g.N]; exact h1) (by unfold L2.Loc; rw [g.sc]; exact isLoc_ok h2) ?_), fun _ _ z => nomatch z⟩
      rcases h3 with h3 | h3
      · exact .inl (by rw [g.fn]; exact h3)
      · exact .inr (by rw [g.sc]; exact isL_ok h3)
    · cases h
  | .tp ts, c, X, ex, own, sl, g, hs, h => by
    rw [ckG] at h; split at h
    · rename_i es k p q; obtain rfl := vTup_eq q
      obtain ⟨a1, a2, a3⟩ := sGs ts g hs h
      have e0 : (fun r : T × Bool => evG (ctx P wh n) (.tp ts) r.1 (r.2 && isRef r.1)) = fun r => match r.1 with
        | .tup xs => evGs (ctx P wh n) ts xs
        | .lst xs => evGs (ctx P wh n) ts xs
        | _ => fail := by
        funext r
        obtain ⟨t, fr⟩ := r
        cases t <;> (rw [evG] <;> (intro _ hz; cases hz))
      rw [e0]
      exact ⟨eg_tup g.calm a1 a2 (assign_len es) (assign_find es a3), fun _ _ z => nomatch z⟩
    · cases h
  | .sub i e, c, X, ex, own, sl, g, hs, h => by
    rw [ckG] at h; split at h
    · rename_i o b p q; obtain rfl := vSub_eq q
      simp only [Bool.and_eq_true] at h
      obtain ⟨h1, h2⟩ := h
      split at h1
      · rename_i x p q2; obtain rfl := vName_eq q2
        have e0 : (fun r : T × Bool => evG (ctx P wh n) (.sub i e) r.1 (r.2 && isRef r.1)) = fun r => (do
            let _ ← mine i
            let x ← evO (ctx P wh n) e
            let x ← res x
            let j ← lift (asInt x)
            match ← mine i with
            | .lst xs => do
              let k ← lift (L2.ixN xs.length j)
              chg i (.lst (xs.set k r.1))
            | _ => fail) := by funext r; rw [evG]; rfl
        rw [e0]
        exact ⟨eg_sub (sE e g h2).nsl (ckVar_ok g h1) (sE e g h2).po, fun _ _ z => nomatch z⟩
      · cases h1
    · cases h
theorem sGs : ∀ (ts : Tgs) {c : CC} {X : Cx} {es : List Expr} {own : Option (List Nat)} {sl : Nat → Prop}, Gd G F P wh n c X → (∀ i, subOwn own i = true → sl i) → ckGs G c own ts es = true →
    PGs X es (fGs F X.K sl fun xs => evGs (ctx P wh n) ts xs) ∧ (∀ xs env env', evGs (ctx P wh n) ts xs env = .ok () env' → xs.length = es.length) ∧ ∀ e ∈ es, ∀ x p, e ≠ Expr.Starred x p
  | .nil, c, X, es, own, sl, g, hs, h => by
    rw [ckGs] at h
    obtain rfl := List.isEmpty_iff.mp h
    have e0 : (fun xs : List T => evGs (ctx P wh n) .nil xs) = fun ts => match ts with | [] => M.pure () | _ => fail := by funext xs; cases xs <;> rw [evGs] <;> (intros; contradiction)
    refine ⟨by rw [e0]; exact egs_nil, fun xs env env' hh => ?_, fun e m => by cases m⟩
    cases xs with
    | nil => rfl
    | cons x xs =>
      rw [show evGs (ctx P wh n) .nil (x :: xs) = fail by exact congrFun e0 (x :: xs)] at hh
      cases hh
  | .cons t ts, c, X, [], own, sl, g, hs, h => by rw [ckGs] at h; cases h
  | .cons t ts, c, X, e :: r, own, sl, g, hs, h => by
    rw [ckGs] at h
    · skip
      simp only [Bool.and_eq_true] at h
      obtain ⟨a1, a2⟩ := sG t g hs h.1
      obtain ⟨b1, b2, b3⟩ := sGs ts g hs h.2
      have e0 : (fun xs : List T => evGs (ctx P wh n) (.cons t ts) xs) = fun xs => match xs with
        | x :: xs => (do (fun r : T × Bool => evG (ctx P wh n) t r.1 (r.2 && isRef r.1)) (x, false); (fun xs => evGs (ctx P wh n) ts xs) xs)
        | _ => fail := by
        funext xs
        cases xs with
        | nil => rw [evGs] <;> (intros; contradiction)
        | cons x xs => rw [evGs]; rfl
      refine ⟨by rw [e0]; exact egs_cons (assign_cons a2) a1 b1, fun xs env env' hh => ?_, fun e' m => ?_⟩
      · rw [show evGs (ctx P wh n) (.cons t ts) xs = _ by exact congrFun e0 xs] at hh
        cases xs with
        | nil => cases hh
        | cons x xs =>
          obtain ⟨u, env1, h1, h2⟩ := bind_ok.mp hh
          simp [b2 _ _ _ h2]
      · rcases List.mem_cons.mp m with rfl | m
        · exact a2
        · exact b3 e' m
end
end
end Ev

set_option Elab.async false
set_option linter.all false
set_option maxRecDepth 100000
set_option maxHeartbeats 1000000
set_option autoImplicit false
namespace Ev
open PySem PySem.Spec PyProof.Rows L2
open Classical
/-! ### statements against the text -/
def vRet : Stmt → Option (Option Expr × Pos) | .Return e p => some (e, p) | _ => none
def vAsg : Stmt → Option (Expr × Expr × Pos) | .Assign [t] v p => some (t, v, p) | _ => none
def vExp : Stmt → Option (Expr × Pos) | .Expr e p => some (e, p) | _ => none
def vIfS : Stmt → Option (Expr × List Stmt × List Stmt × Pos) | .If c a b p => some (c, a, b, p) | _ => none
def vFor : Stmt → Option (Expr × Expr × List Stmt × Pos) | .For t i b [] p => some (t, i, b, p) | _ => none
def vWhl : Stmt → Option (Expr × List Stmt × Pos) | .While c b [] p => some (c, b, p) | _ => none
def isBrk : Stmt → Bool | .Break _ => true | _ => false
def isPass : Stmt → Bool | .Pass _ => true | _ => false
section
variable {st : Stmt}
theorem vRet_eq {e : Option Expr} {p : Pos} (h : vRet st = some (e, p)) : st = .Return e p := by unfold vRet at h; split at h <;> simp_all
theorem vAsg_eq {t v : Expr} {p : Pos} (h : vAsg st = some (t, v, p)) : st = .Assign [t] v p := by unfold vAsg at h; split at h <;> simp_all
theorem vExp_eq {e : Expr} {p : Pos} (h : vExp st = some (e, p)) : st = .Expr e p := by unfold vExp at h; split at h <;> simp_all
theorem vIfS_eq {c : Expr} {a b : List Stmt} {p : Pos} (h : vIfS st = some (c, a, b, p)) : st = .If c a b p := by unfold vIfS at h; split at h <;> simp_all
theorem vFor_eq {t i : Expr} {b : List Stmt} {p : Pos} (h : vFor st = some (t, i, b, p)) : st = .For t i b [] p := by unfold vFor at h; split at h <;> simp_all
theorem vWhl_eq {c : Expr} {b : List Stmt} {p : Pos} (h : vWhl st = some (c, b, p)) : st = .While c b [] p := by unfold vWhl at h; split at h <;> simp_all
theorem isBrk_eq (h : isBrk st = true) : ∃ p, st = .Break p := by unfold isBrk at h; split at h <;> simp_all
theorem isPass_eq (h : isPass st = true) : ∃ p, st = .Pass p := by unfold isPass at h; split at h <;> simp_all
end
/-- a comprehension's scope -/
def cScope : Expr → Option Scope
  | .ListComp _ _ s _ => some s | .SetComp _ _ s _ => some s | .DictComp _ _ _ s _ => some s | _ => none
def swapC (c : CC) (x : Str) (px : Pos) (v : Expr) (s : Scope) : Bool := isL (c.sc.names.lookup x) && px.line == v.pos.line && !(s.names.any fun (n, k) => n == x && (k == .local || k == .cell))
def parNames (c : CC) (ts : List Expr) : List Str := ts.filterMap fun
    | .Name id pos => if isL (c.sc.names.lookup id) && pos.line == (ts.head?.map (·.pos.line)).getD 0 then some id else none
    | _ => none
def noSwap (c : CC) (ts vs : List Expr) : Bool := !(ts.length == 2 || ts.length == 3) || vs.length != ts.length || (parNames c ts).length != ts.length || vs.all (foldedForSure 8)
def asgOk (c : CC) (tg v : Expr) : Bool := match tg with
  | .Name x px => match cScope v with
    | none => true
    | some s => !swapC c x px v s
  | .Tuple ts _ _ => match v with
    | .Tuple vs _ _ => noSwap c ts vs
    | _ => true
  | .Subscript _ _ _ => true
  | _ => false
def swapSet (c : CC) (tg v : Expr) : Bool := match tg with
  | .Name x px => match cScope v with
    | none => false
    | some s => swapC c x px v s
  | _ => false
def isCmp : Ex → Bool | .comp _ _ _ _ _ => true | .comp2 _ _ _ _ _ _ _ _ _ => true | _ => false
/-- two names from two values -/
def ckPar (G : GC) (c : CC) (tgs : Tgs) (es : Exs) (st : Stmt) : Bool := match tgs, es with
  | .cons (.nm i) (.cons (.nm j) .nil), .cons a (.cons b .nil) => match st with
    | .Assign [.Tuple [.Name x px, .Name y py] _ _] (.Tuple [a', b'] _ _) _ => decide (c.N[i]? = some x) && decide (c.N[j]? = some y) && decide (i ≠ j) && isL (c.sc.names.lookup x) && isL (c.sc.names.lookup y) && py.line == px.line && !(x == y) &&
        !([a', b'].all (foldedForSure 8)) && !([a', b'].all (constantsAlone 8)) && ckE G c a a' && ckE G c b b'
    | _ => false
  | .cons (.nm i) (.cons (.nm j) (.cons (.nm l) .nil)), .cons a (.cons b (.cons d .nil)) => match st with
    | .Assign [.Tuple [.Name x px, .Name y py, .Name z pz] _ _] (.Tuple [a', b', d'] _ _) _ => decide (c.N[i]? = some x) && decide (c.N[j]? = some y) && decide (c.N[l]? = some z) && decide (i ≠ j) && decide (i ≠ l) && decide (j ≠ l) && isL (c.sc.names.lookup x) && isL (c.sc.names.lookup y) && isL (c.sc.names.lookup z) && py.line == px.line && pz.line == px.line && !(x == y) && !(x == z) && !(y == z) &&
        !([a', b', d'].all (foldedForSure 8)) && !([a', b', d'].all (constantsAlone 8)) && ckE G c a a' && ckE G c b b' && ckE G c d d'
    | _ => false
  | _, _ => false
mutual
def ckS (G : GC) (c : CC) : St → Stmt → Bool
  | .asg tg e, st => match vAsg st with
    | some (tg', v, p) => ckE G c e v && ckG G c none tg tg' && (asgOk c tg' v || (swapSet c tg' v && isCmp e))
    | none => false
  | .asg2 tgs es, st => ckPar G c tgs es st
  | .exp e, st => match vExp st with
    | some (e', _) => ckE G c e e' && (cScope e').isNone
    | none => false
  | .ite t a b, st => match vIfS st with
    | some (t', a', b', _) => ckE G c t t' && ckSs G c a a' && ckSs G c b b'
    | none => false
  | .for tg it b, st => match vFor st with
    | some (tg', it', b', _) => ckG G c none tg tg' && ckIt G c it tg' it' && ckSs G c b b'
    | none => false
  | .whl t b, st => match vWhl st with
    | some (t', b', _) => ckE G c t t' && ckSs G c b b'
    | none => false
  | .ret e, st => match vRet st with
    | some (e', _) => ckO G c e e'
    | none => false
  | .brk, st => isBrk st
  | .pass, st => isPass st
  | .rse _ _, _ => true
def ckSs (G : GC) (c : CC) : Sts → List Stmt → Bool
  | .nil, ss => ss.isEmpty
  | .cons s ss, sts => match sts with
    | s' :: r => ckS G c s s' && ckSs G c ss r
    | [] => false
end
section
variable {F : Nat → Addr} {G : GC} {P : Prog} {wh n : Nat} {c : CC} {X : Cx} {K : PySem.W.Frag}
theorem Gd.bk (g : Gd G F P wh n c X) : X.env.blockKind = .function := by
  unfold Env.blockKind
  rw [g.sc, g.kind]
  rfl
theorem swaps_none {e : Expr} {t : Option Expr} {l : Nat} {env : PySem.Env} (h : cScope e = none) : swapsWith e t l env = pure false := by
  cases e <;> first | rfl | (cases h)
theorem isL_iff {k : Option NameKind} : isL k = (k == some .local) := by
  unfold isL
  split
  · rfl
  · rename_i h
    cases k with
    | none => rfl
    | some k => cases k <;> first | rfl | exact absurd rfl h
theorem swaps_name (g : Gd G F P wh n c X) {v : Expr} {x : Str} {px : Pos} {l : Nat} {s : Scope} (h : cScope v = some s) : swapsWith v (some (.Name x px)) l X.env = pure (swapC c x px v s) := by
  have bk := g.bk
  have e1 : X.env.kindOf x = c.sc.names.lookup x := by unfold Env.kindOf; rw [g.sc]
  have key : (X.env.blockKind == .function && X.env.kindOf x == some .local && px.line == v.pos.line && !(s.names.any fun (n, k) => n == x && (k == .local || k == .cell))) = swapC c x px v s := by
    unfold swapC
    rw [bk, e1, isL_iff]
    rfl
  rw [← key]
  cases v <;> first | (cases h; rfl) | cases h
theorem swaps_other {v t : Expr} {l : Nat} {env : PySem.Env} (h : ∀ x p, t ≠ .Name x p) : swapsWith v (some t) l env = pure false := by
  cases v <;> first | rfl | (cases t <;> first | rfl | exact absurd rfl (h _ _))
theorem stores_none {t v : Expr} {env : PySem.Env} (h : ∀ ts k p, t ≠ .Tuple ts k p) (h2 : ∀ ts p, t ≠ .List ts p) : swappedStores [t] v env = pure none := by
  cases t <;> first | rfl | exact absurd rfl (h _ _ _) | exact absurd rfl (h2 _ _)
theorem stores_none2 {ts : List Expr} {k : Nat} {p : Pos} {v : Expr} {env : PySem.Env} (h : ∀ vs k p, v ≠ .Tuple vs k p) : swappedStores [.Tuple ts k p] v env = pure none := by
  cases v <;> first | rfl | exact absurd rfl (h _ _ _)
theorem stores_no (g : Gd G F P wh n c X) {ts vs : List Expr} {k k2 : Nat} {p p2 : Pos} (h : noSwap c ts vs = true) : swappedStores [.Tuple ts k p] (.Tuple vs k2 p2) X.env = pure none := by
  unfold swappedStores
  unfold noSwap at h
  simp only [Bool.or_eq_true] at h
  simp only [pure_bind]
  by_cases c1 : (!(ts.length == 2 || ts.length == 3) || vs.length != ts.length || X.env.blockKind != .function) = true
  · rw [if_pos c1]
  · rw [if_neg c1]
    split
    · rfl
    · generalize hn : List.filterMap _ ts = names
      have e0 : names = parNames c ts := by
        rw [← hn]
        unfold parNames
        congr 1
        funext e
        cases e <;> try rfl
        rename_i id pos
        show (if X.env.kindOf id == some .local && pos.line == _ then some id else none) = if isL (c.sc.names.lookup id) && pos.line == _ then some id else none
        have : X.env.kindOf id = c.sc.names.lookup id := by unfold Env.kindOf; rw [g.sc]
        rw [this, isL_iff]
      subst e0
      have c1' : ¬ ((!(ts.length == 2 || ts.length == 3)) = true ∨ (vs.length != ts.length) = true) := fun z => c1 (by
        rcases z with z | z <;> simp [z])
      rcases h with (h | h) | h
      · exact absurd h c1'
      · rw [if_pos (by simp [h])]
      · split
        · rfl
        · first | rfl | rw [if_pos h]
theorem stores_yes (g : Gd G F P wh n c X) {x y : Str} {px py p p2 : Pos} {a b : Expr} {k k2 : Nat} (hx : c.sc.names.lookup x = some .local) (hy : c.sc.names.lookup y = some .local) (hl : (py.line == px.line) = true) (hne : (x == y) = false)
    (ha : ∀ x p, a ≠ .Starred x p) (hb : ∀ x p, b ≠ .Starred x p) (h1 : [a, b].all (foldedForSure 8) = false) (h2 : [a, b].all (constantsAlone 8) = false) :
    swappedStores [.Tuple [.Name x px, .Name y py] k p] (.Tuple [a, b] k2 p2) X.env = pure (some [x, y]) := by
  have kx : X.env.kindOf x = some .local := by unfold Env.kindOf; rw [g.sc]; exact hx
  have ky : X.env.kindOf y = some .local := by unfold Env.kindOf; rw [g.sc]; exact hy
  have bk := g.bk
  unfold swappedStores
  simp only [pure_bind]
  rw [if_neg (by rw [bk]; simp), if_neg (by
    rw [Bool.not_eq_true, List.any_eq_false]
    intro e m
    have : ∀ x p, e ≠ Expr.Starred x p := by
      rcases List.mem_cons.mp m with rfl | m
      · exact ha
      · rcases List.mem_cons.mp m with rfl | m
        · exact hb
        · cases m
    cases e <;> first | exact absurd rfl (this _ _) | simp)]
  have hnm : (([.Name x px, .Name y py] : List Expr).filterMap fun
    | .Name id pos => if X.env.kindOf id == some .local && pos.line == ((([.Name x px, .Name y py] : List Expr).head?.map (·.pos.line)).getD 0) then some id else none
    | _ => none) = [x, y] := by
    simp [List.filterMap_cons, kx, ky, Expr.pos, eq_of_beq hl]
  generalize hn : List.filterMap _ ([.Name x px, .Name y py] : List Expr) = names
  have e0 : names = [x, y] := by rw [← hn]; exact hnm
  subst e0
  have hd : ([x, y] : List Str).eraseDups = [x, y] := by
    have hne' : (y == x) = false := by
      rw [Bool.eq_false_iff] at hne ⊢
      exact fun z => hne (by rw [eq_of_beq z]; exact beq_self_eq_true x)
    simp [List.eraseDups_cons, hne']
  rw [hd, if_neg (by simp), if_neg (by rw [h1]; simp), if_neg (by rw [h2]; simp)]
theorem stores_yes3 (g : Gd G F P wh n c X) {x y z : Str} {px py pz p p2 : Pos} {a b d : Expr} {k k2 : Nat} (hx : c.sc.names.lookup x = some .local) (hy : c.sc.names.lookup y = some .local) (hz : c.sc.names.lookup z = some .local) (hl : (py.line == px.line) = true) (hl2 : (pz.line == px.line) = true)
    (hne : (x == y) = false) (hne2 : (x == z) = false) (hne3 : (y == z) = false)
    (ha : ∀ x p, a ≠ .Starred x p) (hb : ∀ x p, b ≠ .Starred x p) (hc : ∀ x p, d ≠ .Starred x p) (h1 : [a, b, d].all (foldedForSure 8) = false) (h2 : [a, b, d].all (constantsAlone 8) = false) :
    swappedStores [.Tuple [.Name x px, .Name y py, .Name z pz] k p] (.Tuple [a, b, d] k2 p2) X.env = pure (some [x, y, z]) := by
  have kx : X.env.kindOf x = some .local := by unfold Env.kindOf; rw [g.sc]; exact hx
  have ky : X.env.kindOf y = some .local := by unfold Env.kindOf; rw [g.sc]; exact hy
  have kz : X.env.kindOf z = some .local := by unfold Env.kindOf; rw [g.sc]; exact hz
  have bk := g.bk
  unfold swappedStores
  simp only [pure_bind]
  rw [if_neg (by rw [bk]; simp), if_neg (by
    rw [Bool.not_eq_true, List.any_eq_false]
    intro e m
    have : ∀ x p, e ≠ Expr.Starred x p := by
      rcases List.mem_cons.mp m with rfl | m
      · exact ha
      · rcases List.mem_cons.mp m with rfl | m
        · exact hb
        · rcases List.mem_cons.mp m with rfl | m
          · exact hc
          · cases m
    cases e <;> first | exact absurd rfl (this _ _) | simp)]
  have hnm : (([.Name x px, .Name y py, .Name z pz] : List Expr).filterMap fun
    | .Name id pos => if X.env.kindOf id == some .local && pos.line == ((([.Name x px, .Name y py, .Name z pz] : List Expr).head?.map (·.pos.line)).getD 0) then some id else none
    | _ => none) = [x, y, z] := by
    simp [List.filterMap_cons, kx, ky, kz, Expr.pos, eq_of_beq hl, eq_of_beq hl2]
  generalize hn : List.filterMap _ ([.Name x px, .Name y py, .Name z pz] : List Expr) = names
  have e0 : names = [x, y, z] := by rw [← hn]; exact hnm
  subst e0
  have sym : ∀ {u v : Str}, (u == v) = false → (v == u) = false := fun {u v} h => by
    rw [Bool.eq_false_iff] at h ⊢
    exact fun w => h (by rw [eq_of_beq w]; exact beq_self_eq_true u)
  have hd : ([x, y, z] : List Str).eraseDups = [x, y, z] := by
    simp [List.eraseDups_cons, sym hne, sym hne2, sym hne3]
  rw [hd, if_neg (by simp), if_neg (by rw [h1]; simp), if_neg (by rw [h2]; simp)]
theorem fS_mono {m m' : M Fl} (h : ∀ env fl env', m env = .ok fl env' → m' env = .ok fl env') {D : Ends} {σ : L2.St} {H : Hp} (q : fS F K m D σ H) : fS F K m' D σ H := by
  obtain ⟨B, env, S, fl, env', h0, q⟩ := q
  exact ⟨B, env, S, fl, env', h _ _ _ h0, q⟩
end
end Ev

set_option Elab.async false
set_option linter.all false
set_option maxRecDepth 100000
set_option maxHeartbeats 1000000
set_option autoImplicit false
namespace Ev
open PySem PySem.Spec PyProof.Rows L2
open Classical
section
variable {F : Nat → Addr} {G : GC} {P : Prog} {wh n : Nat}
theorem cScope_swapSole {v t : Expr} {l : Nat} {env : PySem.Env} (h : cScope v = none) : swapsWithSole [t] v l env = pure false := swaps_none h
/-- a plain assignment -/
theorem asg_ok {c : CC} {X : Cx} {tg v : Expr} {l : Nat} (g : Gd G F P wh n c X) (h : asgOk c tg v = true) : swapsWithSole [tg] v l X.env = pure false ∧ swappedStores [tg] v X.env = pure none := by
  cases tg with
  | Name x px =>
    refine ⟨?_, stores_none (fun _ _ _ z => nomatch z) (fun _ _ z => nomatch z)⟩
    unfold asgOk at h
    cases hs : cScope v with
    | none => exact cScope_swapSole hs
    | some s =>
      simp only [hs, Bool.not_eq_true'] at h
      show swapsWith v (some (.Name x px)) l X.env = _
      rw [swaps_name g hs, h]
  | Tuple ts k p =>
    refine ⟨show swapsWith v (some (.Tuple ts k p)) l X.env = _ from swaps_other (fun _ _ z => nomatch z), ?_⟩
    unfold asgOk at h
    by_cases hv : ∃ vs k p, v = Expr.Tuple vs k p
    · obtain ⟨vs, k2, p2, rfl⟩ := hv
      exact stores_no g h
    · exact stores_none2 fun vs k p z => hv ⟨vs, k, p, z⟩
  | Subscript a b p => exact ⟨show swapsWith v (some (.Subscript a b p)) l X.env = _ from swaps_other (fun _ _ z => nomatch z), stores_none (fun _ _ _ z => nomatch z) (fun _ _ z => nomatch z)⟩
  | _ => cases h
theorem assign_one {env : PySem.Env} {tg : Expr} (h : ∀ x p, tg ≠ .Starred x p) : (assignEach [tg] env).map (·.2) = [assign tg env] := by rw [assign_cons h]; rfl
/-- name = comprehension, the store inside -/
theorem set_comp {c : CC} {X : Cx} {e : Ex} {tg : Tg} {tg' v : Expr} {pos : Pos} (g : Gd G F P wh n c X) (h1 : ckE G c e v = true) (h2 : ckG G c none tg tg' = true) (h3 : swapSet c tg' v = true) (h4 : isCmp e = true) :
    PS X (.Assign [tg'] v pos) (fS F X.K (evS (ctx P wh n) (.asg tg e))) := by
  cases tg' with
  | Name x px =>
    unfold swapSet at h3
    cases hs : cScope v with
    | none => simp only [hs] at h3; cases h3
    | some s =>
      simp only [hs] at h3
      have hsw : ∀ l, swapsWith v (some (.Name x px)) l X.env = pure true := fun l => by rw [swaps_name g hs, h3]
      have hloc : c.sc.names.lookup x = some .local := by
        unfold swapC at h3
        simp only [Bool.and_eq_true] at h3
        exact isL_ok h3.1.1
      cases tg with
      | nm i =>
        rw [ckG] at h2
        simp only [vName, Bool.and_eq_true, decide_eq_true_eq] at h2
        obtain ⟨⟨⟨hi, _⟩, _⟩, _⟩ := h2
        have e0 : evS (ctx P wh n) (.asg (.nm i) e) = (do let r ← evE (ctx P wh n) e; bnd i r.1 (r.2 && isRef r.1); M.pure .nx) := by
          rw [evS]
          simp only [evG]
        rw [e0]
        cases e with
        | comp elt tg it ifs own =>
          rw [ckE] at h1; split at h1
          · rename_i elt' tg' it' ifs' scope p q; obtain rfl := vComp_eq q
            simp only [Bool.and_eq_true, decide_eq_true_eq] at h1
            obtain ⟨⟨⟨⟨⟨h1, h2⟩, h3⟩, h4⟩, h5⟩, h6⟩ := h1
            have ok : BlkOk X.N X.env.scope scope (owOf c.N own) := by rw [g.N, g.sc]; exact blkOk_by h1
            obtain ⟨i1, i2⟩ := sIt it g h2
            have := st_setLc (spos := pos) (py := px) (pos := p) (i := i) g.calm g.nX (by rw [g.N]; exact hi) (by rw [g.sc]; exact hloc) (hsw _) i1 ok (fun s H C cl fp => (sG tg (g.inner ok s H C cl fp) (sl := (· ∈ (owOf c.N own).map (·.2))) (fun i hi => by rw [owOf_map]; simpa [subOwn] using hi) h3).1) (fun s H C cl fp => (sEs ifs (g.inner ok s H C cl fp) h5).pts h4) (fun s H C cl fp => (sE elt (g.inner ok s H C cl fp) h6).pe) (set_fold i2)
            rw [owOf_map] at this
            rw [evE_comp]
            exact this
          · cases h1
        | comp2 elt tg it ifs tg1 it1 ifs1 own own1 =>
          rw [ckE] at h1; split at h1
          · rename_i elt' tg' it' ifs' tg1' it1' ifs1' scope p q; obtain rfl := vComp2_eq q
            simp only [Bool.and_eq_true, decide_eq_true_eq, List.all_eq_true] at h1
            obtain ⟨⟨⟨⟨⟨⟨⟨⟨⟨⟨h1, h0⟩, h2⟩, h3⟩, h4⟩, h5⟩, j2⟩, j3⟩, j4⟩, j5⟩, h6⟩ := h1
            have ok : BlkOk X.N X.env.scope scope (owOf c.N own) := by rw [g.N, g.sc]; exact blkOk_by h1
            obtain ⟨i1, i2⟩ := sIt it g h2
            have hv : ∀ i ∈ own1, i ∈ (owOf c.N own).map (·.2) := fun i hi => by rw [owOf_map]; simpa using h0 i hi
            have := st_setLc2 (spos := pos) (py := px) (pos := p) (i := i) g.calm g.nX (by rw [g.N]; exact hi) (by rw [g.sc]; exact hloc) (hsw _) i1 ok hv (fun s H C cl fp => (sG tg (g.inner ok s H C cl fp) (sl := (· ∈ (owOf c.N own).map (·.2))) (fun i hi => by rw [owOf_map]; simpa [subOwn] using hi) h3).1) (fun s H C cl fp => (sEs ifs (g.inner ok s H C cl fp) h5).pts h4)
              (fun s H C cl fp => (sIt it1 (g.inner ok s H C cl fp) j2).1) (fun s H C cl fp => (sG tg1 (g.inner ok s H C cl fp) (sl := (· ∈ own1)) (fun i hi => by simpa [subOwn] using hi) j3).1) (fun s H C cl fp => (sEs ifs1 (g.inner ok s H C cl fp) j5).pts j4)
              (fun s H C cl fp => (sE elt (g.inner ok s H C cl fp) h6).pe) (set_fold i2) (fun env => set_fold (sIt it1 (g.inner ok X.s_0 X.H_0 0 [] []) j2).2)
            rw [owOf_map] at this
            rw [evE_comp2]
            exact this
          · cases h1
        | _ => cases h4
      | tp ts => rw [ckG] at h2; simp only [vTup] at h2; cases h2
      | sub i e => rw [ckG] at h2; simp only [vSub] at h2; cases h2
  | _ => cases h3
theorem par_ok {c : CC} {X : Cx} {tgs : Tgs} {es : Exs} {st : Stmt} (g : Gd G F P wh n c X) (h : ckPar G c tgs es st = true) : PS X st (fS F X.K (evS (ctx P wh n) (.asg2 tgs es))) := by
  unfold ckPar at h
  split at h
  · rename_i i j a b
    split at h
    · rename_i x px y py k pt a' b' k2 pt2 pos
      simp only [Bool.and_eq_true, decide_eq_true_eq, Bool.not_eq_true'] at h
      obtain ⟨⟨⟨⟨⟨⟨⟨⟨⟨⟨h1, h2⟩, h3⟩, h4⟩, h5⟩, h6⟩, h7⟩, h8⟩, h9⟩, h10⟩, h11⟩ := h
      have sa := sE a g h10
      have sb := sE b g h11
      refine (st_par2 (kt := k) (pt := pt) (k2 := k2) (pt2 := pt2) g.calm g.nX (by rw [g.N]; exact h1) (by rw [g.N]; exact h2) h3 (by rw [g.sc]; exact isL_ok h4) (by rw [g.sc]; exact isL_ok h5) sa.ns sb.ns sa.pe sb.pe (stores_yes g (isL_ok h4) (isL_ok h5) h6 h7 sa.ns sb.ns h8 h9) rfl).imp fun D σ H q => fS_mono (fun env fl env' hh => ?_) q
      rw [evS] at hh
      obtain ⟨ts, env1, a1, b1⟩ := bind_ok.mp hh
      unfold evEp at a1
      obtain ⟨r1, env2, a2, b2⟩ := bind_ok.mp a1
      obtain ⟨rs, env3, a3, b3⟩ := bind_ok.mp b2
      unfold evEp at a3
      obtain ⟨r2, env4, a4, b4⟩ := bind_ok.mp a3
      obtain ⟨rs2, env5, a5, b5⟩ := bind_ok.mp b4
      unfold evEp at a5
      obtain ⟨rfl, rfl⟩ := pure_ok.mp a5
      obtain ⟨rfl, rfl⟩ := pure_ok.mp b5
      obtain ⟨rfl, rfl⟩ := pure_ok.mp b3
      obtain ⟨u, env6, a6, b6⟩ := bind_ok.mp b1
      obtain ⟨rfl, rfl⟩ := pure_ok.mp b6
      simp only [List.map_cons, List.map_nil] at a6
      unfold evGp at a6
      obtain ⟨u7, env7, a7, b7⟩ := bind_ok.mp a6
      unfold evGp at b7
      obtain ⟨u8, env8, a8, b8⟩ := bind_ok.mp b7
      unfold evGp at b8
      obtain ⟨_, rfl⟩ := pure_ok.mp b8
      rw [evG] at a7 a8
      exact bind_ok.mpr ⟨r1, _, a2, bind_ok.mpr ⟨r2, _, a4, bind_ok.mpr ⟨u7, _, a7, bind_ok.mpr ⟨u8, _, a8, rfl⟩⟩⟩⟩
    · cases h
  · rename_i i j l a b d
    split at h
    · rename_i x px y py z pz k pt a' b' d' k2 pt2 pos
      simp only [Bool.and_eq_true, decide_eq_true_eq, Bool.not_eq_true'] at h
      obtain ⟨⟨⟨⟨⟨⟨⟨⟨⟨⟨⟨⟨⟨⟨⟨⟨⟨⟨h1, h2⟩, h3⟩, h4⟩, h5⟩, h6⟩, h7⟩, h8⟩, h9⟩, h10⟩, h11⟩, h12⟩, h13⟩, h14⟩, h15⟩, h16⟩, h17⟩, h18⟩, h19⟩ := h
      have sa := sE a g h17
      have sb := sE b g h18
      have sd := sE d g h19
      refine (st_par3 (kt := k) (pt := pt) (k2 := k2) (pt2 := pt2) g.calm g.nX (by rw [g.N]; exact h1) (by rw [g.N]; exact h2) (by rw [g.N]; exact h3) h4 h5 h6 (by rw [g.sc]; exact isL_ok h7) (by rw [g.sc]; exact isL_ok h8) (by rw [g.sc]; exact isL_ok h9) sa.ns sb.ns sd.ns sa.pe sb.pe sd.pe
        (stores_yes3 g (isL_ok h7) (isL_ok h8) (isL_ok h9) h10 h11 h12 h13 h14 sa.ns sb.ns sd.ns h15 h16) rfl).imp fun D σ H q => fS_mono (fun env fl env' hh => ?_) q
      rw [evS] at hh
      obtain ⟨ts, env1, a1, b1⟩ := bind_ok.mp hh
      unfold evEp at a1
      obtain ⟨r1, env2, a2, b2⟩ := bind_ok.mp a1
      obtain ⟨rs, env3, a3, b3⟩ := bind_ok.mp b2
      unfold evEp at a3
      obtain ⟨r2, env4, a4, b4⟩ := bind_ok.mp a3
      obtain ⟨rs2, env5, a5, b5⟩ := bind_ok.mp b4
      unfold evEp at a5
      obtain ⟨r3, env6, a6, b6⟩ := bind_ok.mp a5
      obtain ⟨rs3, env7, a7, b7⟩ := bind_ok.mp b6
      unfold evEp at a7
      obtain ⟨rfl, rfl⟩ := pure_ok.mp a7
      obtain ⟨rfl, rfl⟩ := pure_ok.mp b7
      obtain ⟨rfl, rfl⟩ := pure_ok.mp b5
      obtain ⟨rfl, rfl⟩ := pure_ok.mp b3
      obtain ⟨u, env8, a8, b8⟩ := bind_ok.mp b1
      obtain ⟨rfl, rfl⟩ := pure_ok.mp b8
      simp only [List.map_cons, List.map_nil] at a8
      unfold evGp at a8
      obtain ⟨u9, env9, a9, b9⟩ := bind_ok.mp a8
      unfold evGp at b9
      obtain ⟨u10, env10, a10, b10⟩ := bind_ok.mp b9
      unfold evGp at b10
      obtain ⟨u11, env11, a11, b11⟩ := bind_ok.mp b10
      unfold evGp at b11
      obtain ⟨_, rfl⟩ := pure_ok.mp b11
      rw [evG] at a9 a10 a11
      exact bind_ok.mpr ⟨r1, _, a2, bind_ok.mpr ⟨r2, _, a4, bind_ok.mpr ⟨r3, _, a6, bind_ok.mpr ⟨u9, _, a9, bind_ok.mpr ⟨u10, _, a10, bind_ok.mpr ⟨u11, _, a11, rfl⟩⟩⟩⟩⟩⟩
    · cases h
  · cases h
mutual
theorem sS : ∀ (s : St) {c : CC} {X : Cx} {st : Stmt}, Gd G F P wh n c X → PassesOwn (model X.prog X.w) X.A X.env X.xe → ckS G c s st = true → PS X st (fS F X.K (evS (ctx P wh n) s))
  | .asg tg e, c, X, st, g, hp, h => by
    rw [ckS] at h; split at h
    · rename_i tg' v p q; obtain rfl := vAsg_eq q
      simp only [Bool.and_eq_true, Bool.or_eq_true] at h
      obtain ⟨⟨h1, h2⟩, h3⟩ := h
      rcases h3 with h3 | ⟨h3, h4⟩
      · obtain ⟨k1, k2⟩ := asg_ok (l := p.line) g h3
        obtain ⟨g1, g2⟩ := sG tg g (own := none) (sl := fun _ => True) (fun _ _ => trivial) h2
        rw [evS]
        exact st_asg k1 k2 (assign_one g2) (sE e g h1).pe g1
      · exact set_comp g h1 h2 h3 h4
    · cases h
  | .asg2 tgs es, c, X, st, g, hp, h => by
    rw [ckS] at h
    exact par_ok g h
  | .exp e, c, X, st, g, hp, h => by
    rw [ckS] at h; split at h
    · rename_i e' p q; obtain rfl := vExp_eq q
      simp only [Bool.and_eq_true, Option.isNone_iff_eq_none] at h
      rw [evS]
      exact st_exp (swaps_none h.2) (sE e g h.1).pe
    · cases h
  | .ite t a b, c, X, st, g, hp, h => by
    rw [ckS] at h; split at h
    · rename_i t' a' b' p q; obtain rfl := vIfS_eq q
      simp only [Bool.and_eq_true] at h
      rw [evS]
      exact st_if (sE t g h.1.1).pt (sSs a g hp h.1.2) (sSs b g hp h.2)
    · cases h
  | .for tg it b, c, X, st, g, hp, h => by
    rw [ckS] at h; split at h
    · rename_i tg' it' b' p q; obtain rfl := vFor_eq q
      simp only [Bool.and_eq_true] at h
      obtain ⟨i1, i2⟩ := sIt it g h.1.2
      rw [evS]
      exact st_for hp g.calm (set_fold i2) i1 (sG tg g (own := none) (sl := fun _ => True) (fun _ _ => trivial) h.1.1).1 (sSs b g hp h.2)
    · cases h
  | .whl t b, c, X, st, g, hp, h => by
    rw [ckS] at h; split at h
    · rename_i t' b' p q; obtain rfl := vWhl_eq q
      simp only [Bool.and_eq_true] at h
      rw [evS]
      exact st_whl hp (sE t g h.1).pt (sSs b g hp h.2)
    · cases h
  | .ret e, c, X, st, g, hp, h => by
    rw [ckS] at h; split at h
    · rename_i e' p q; obtain rfl := vRet_eq q
      rw [evS]
      cases e with
      | none =>
        rw [ckO] at h
        obtain rfl := Option.isNone_iff_eq_none.mp h
        exact st_retN
      | some e =>
        cases e' with
        | none => rw [ckO] at h; cases h
        | some e' =>
          rw [ckO] at h
          by_cases hv : ∃ i, e = .var i
          · obtain ⟨i, rfl⟩ := hv
            rw [ckE] at h
            split at h
            · rename_i x p q; obtain rfl := vName_eq q
              exact st_retV (ckVar_ok g h)
            · cases h
          · have e0 : evR (ctx P wh n) (.some e) = evE (ctx P wh n) e := by
              cases e <;> first | rfl | exact absurd ⟨_, rfl⟩ hv
            rw [e0]
            exact st_ret (sE e g h).pe
    · cases h
  | .brk, c, X, st, g, hp, h => by
    rw [ckS] at h
    obtain ⟨p, rfl⟩ := isBrk_eq h
    rw [evS]; exact st_brk
  | .pass, c, X, st, g, hp, h => by
    rw [ckS] at h
    obtain ⟨p, rfl⟩ := isPass_eq h
    rw [evS]; exact st_pass
  | .rse cl es, c, X, st, g, hp, h => by
    rw [evS]; exact st_rse (α := Unit)
theorem sSs : ∀ (ss : Sts) {c : CC} {X : Cx} {sts : List Stmt}, Gd G F P wh n c X → PassesOwn (model X.prog X.w) X.A X.env X.xe → ckSs G c ss sts = true → PSs X sts (fS F X.K (evSs (ctx P wh n) ss))
  | .nil, c, X, sts, g, hp, h => by
    rw [ckSs] at h
    obtain rfl := List.isEmpty_iff.mp h
    rw [evSs]; exact st_nil
  | .cons s ss, c, X, [], g, hp, h => by rw [ckSs] at h; cases h
  | .cons s ss, c, X, st :: sts, g, hp, h => by
    rw [ckSs] at h
    simp only [Bool.and_eq_true] at h
    rw [evSs]
    exact st_cons (sS s g hp h.1) (sSs ss g hp h.2)
end
end
end Ev

set_option Elab.async false
set_option linter.all false
set_option maxRecDepth 100000
set_option maxHeartbeats 1000000
set_option autoImplicit false
namespace Ev
open PySem PySem.Spec PyProof.Rows L2
open Classical
/-! ### all defs of the text -/
def fnScopeC (N ps : List Str) (sc : Scope) : Bool := decide (sc.kind = .function) && !sc.isCoroutine && !sc.isGenerator && decide N.Nodup && decide (N.take ps.length = ps) && (ps.all fun x => isLoc (sc.names.lookup x)) && (sc.names.all fun y => decide (y.2 ≠ .free))
theorem fnScope_by {N ps : List Str} {sc : Scope} (h : fnScopeC N ps sc = true) : FnScope N ps sc := by
  unfold fnScopeC at h
  simp only [Bool.and_eq_true, decide_eq_true_eq, Bool.not_eq_true', List.all_eq_true] at h
  obtain ⟨⟨⟨⟨⟨⟨h1, h2⟩, h3⟩, h4⟩, h5⟩, h6⟩, h7⟩ := h
  exact ⟨h1, h2, h3, h4, h5, fun x m => isLoc_ok (h6 x m), h7⟩
def ckDef (G : GC) (P : Prog) (f : Nat) (N : List Str) (st : Stmt) : Bool := match P.fn f with
  | some d => fnScopeC N (G.ps f) (defScope st) && decide (N.length = d.ns) && decide ((G.ps f).length = d.np) && decide (d.np ≤ d.ns) && ckSs G ⟨N, defScope st, fun _ => true⟩ d.body (defBody st)
  | none => false
/-- how a def binds its arguments -/
structure BindOk (x : Str) (st : Stmt) (ps : List Str) (tab : List (Nat × List Str × List Nat)) : Prop where
  pos : ∀ (kV doc pm : Value) (an : Option Addr) (cdv ct : Value) (us : List Value), us.length = ps.length → bindArgs (PySem.W.fnOf x x (defArgs st) (defBody st) (defScope st) .none kV doc pm an cdv ct) ⟨us, []⟩ = pure (ps.zip us)
  kw : ∀ (kV doc pm : Value) (an : Option Addr) (cdv ct : Value) (np : Nat) (ks : List Str) (perm : List Nat), (np, ks, perm) ∈ tab → KB (PySem.W.fnOf x x (defArgs st) (defBody st) (defScope st) .none kV doc pm an cdv ct) ps np ks perm
/-- a def as the top leaves it -/
structure DefIn (K : PySem.W.Frag) (x : Str) (st : Stmt) (f : Addr) : Prop where
  ns : PySem.W.nsIn K mainGlobals x = some (some (.ref f))
  ex : ∃ (oc : Value) (od : Option Addr) (kV doc pm : Value) (an : Option Addr) (cdv ct : Value) (osl : Array (Option Value)), K.lookup f = some ⟨oc, od, .func (PySem.W.fnOf x x (defArgs st) (defBody st) (defScope st) .none kV doc pm an cdv ct), osl⟩ ∧ PySem.W.codeIn K cdv x = true
  kp : PySem.W.keepIn K (.ref f) = true
theorem DefIn.mk' {K : PySem.W.Frag} {x : Str} {st : Stmt} {f : Addr} {oc : Value} {od an : Option Addr} {osl : Array (Option Value)} {kV doc pm cdv ct : Value} (a : PySem.W.nsIn K mainGlobals x = some (some (.ref f)))
    (l : K.lookup f = some ⟨oc, od, .func (PySem.W.fnOf x x (defArgs st) (defBody st) (defScope st) .none kV doc pm an cdv ct), osl⟩) (c : PySem.W.codeIn K cdv x = true) (k : PySem.W.keepIn K (.ref f) = true) : DefIn K x st f := ⟨a, ⟨oc, od, kV, doc, pm, an, cdv, ct, osl, l, c⟩, k⟩
section
variable {prog : Program} {w : World} {K : PySem.W.Frag} {mg : Str → Option Value} {base h : Heap} {F : Nat → Addr} {P : Prog} {wh : Nat} {G : GC} {tab : Nat → List (Nat × List Str × List Nat)} {tops : Nat → Stmt} {NS : Nat → List Str}
theorem all_fns (hG : ∀ f np ks perm, G.kw f np ks perm = true → (np, ks, perm) ∈ tab f) (hmg : ∀ x v, PySem.W.nsIn K mainGlobals x = some (some v) → mg x = some v) (hD : ∀ f, G.known f = true → DefIn K (G.fname f) (tops f) (F f) ∧ BindOk (G.fname f) (tops f) (G.ps f) (tab f) ∧ ckDef G P f (NS f) (tops f) = true)
    (hblt : ∀ x, G.blt.contains x = true → mg x = none) (hgl : ∀ g, G.gknown g = true → ∃ t u v, P.glb g = some t ∧ mg (G.gname g) = some u ∧ RelV v u ∧ ∀ Hm, Rp F K Hm t v) (hio : ∀ f, G.io f = ioOf P f) :
    ∀ n f, G.known f = true → Fd prog w K mg base F P wh G.kw n f (G.fname f) (G.ps f) := by
  have fixed : ∀ n f, G.known f = true → (∀ fd, Fun K (G.fname f) (G.fname f) (tops f) (F f) fd → FnOk prog w K mg base CX0 n (F f) fd (G.ps f) (spF F K P wh n f)) → Fd prog w K mg base F P wh G.kw n f (G.fname f) (G.ps f) := fun n f hf hfn => by
    obtain ⟨D, B, _⟩ := hD f hf
    obtain ⟨oc, od, kV, doc, pm, an, cdv, ct, osl, l, c⟩ := D.ex
    have Fn := fun_mk l c D.kp
    exact ⟨_, hfn _ Fn, hmg _ _ D.ns, D.kp, Fn.binds B.pos, fun np ks perm hk => B.kw _ _ _ _ _ _ np ks perm (hG f np ks perm hk)⟩
  intro n
  induction n with
  | zero =>
    intro f hf
    refine fixed 0 f hf fun fd Fn => ⟨fun vs H Q E hs => ?_, fun A outer s H args us vs Q E _ _ _ _ hs => ?_⟩
    · obtain ⟨Hm, ts, r, fr, out, _, _, hr, _⟩ := hs
      cases hr
    · obtain ⟨Hm, ts, r, fr, out, _, _, hr, _⟩ := hs
      cases hr
  | succ n ih =>
    intro f hf
    refine fixed (n + 1) f hf fun fd Fn => ?_
    obtain ⟨_, _, hck⟩ := hD f hf
    unfold ckDef at hck
    split at hck
    · rename_i d hd
      simp only [Bool.and_eq_true, decide_eq_true_eq] at hck
      obtain ⟨⟨⟨⟨h1, h2⟩, h3⟩, h4⟩, h5⟩ := hck
      have S := fnScope_by h1
      refine fn_rule Fn hd S h2 h3 h4 fun cdv A outer s H E hr => ?_
      exact sSs d.body (c := ⟨NS f, defScope (tops f), fun _ => true⟩) ⟨rfl, S.nd, rfl, S.kind, rfl, fun _ => rfl, hr, hblt, ih, hgl, hio⟩ PassesOwn.never h5
    · cases hck
theorem law_fn (hG : ∀ f np ks perm, G.kw f np ks perm = true → (np, ks, perm) ∈ tab f) (hmg : ∀ x v, PySem.W.nsIn K mainGlobals x = some (some v) → mg x = some v) (hD : ∀ f, G.known f = true → DefIn K (G.fname f) (tops f) (F f) ∧ BindOk (G.fname f) (tops f) (G.ps f) (tab f) ∧ ckDef G P f (NS f) (tops f) = true)
    (hblt : ∀ x, G.blt.contains x = true → mg x = none) (hgl : ∀ g, G.gknown g = true → ∃ t u v, P.glb g = some t ∧ mg (G.gname g) = some u ∧ RelV v u ∧ ∀ Hm, Rp F K Hm t v) (hio : ∀ f, G.io f = ioOf P f)
    (n f : Nat) (hf : G.known f = true) {fd : FuncData} (Fn : Fun K (G.fname f) (G.fname f) (tops f) (F f) fd) : FnOk prog w K mg base CX0 (n + 1) (F f) fd (G.ps f) (spF F K P wh (n + 1) f) := by
  have ih := all_fns (prog := prog) (w := w) (base := base) (F := F) (P := P) (wh := wh) hG hmg hD hblt hgl hio n
  obtain ⟨_, _, hck⟩ := hD f hf
  unfold ckDef at hck
  split at hck
  · rename_i d hd
    simp only [Bool.and_eq_true, decide_eq_true_eq] at hck
    obtain ⟨⟨⟨⟨h1, h2⟩, h3⟩, h4⟩, h5⟩ := hck
    have S := fnScope_by h1
    refine fn_rule Fn hd S h2 h3 h4 fun cdv A outer s H E hr => ?_
    exact sSs d.body (c := ⟨NS f, defScope (tops f), fun _ => true⟩) ⟨rfl, S.nd, rfl, S.kind, rfl, fun _ => rfl, hr, hblt, ih, hgl, hio⟩ PassesOwn.never h5
  · cases hck
/-- the law's own promise -/
theorem law_sp {f n : Nat} {ns : List Int} {H : Hp} {a : Addr} {E : XK} {Q : VK} {fr : Bool} (hio : ioOf P f = none) (hl : ns.length ≤ sizeLine) (hS : SqL K H a (ns.map V.int)) (h : run P wh n f [.scr (ns.map T.int)] = .ok (.bl true) fr none) (q : ∀ H', Q (.bl true) H') :
    spF F K P wh n f [.ref a] H Q E := by
  refine ⟨H, _, _, _, _, .refl, ⟨rfl, fun i t v h1 h2 => ?_⟩, h, fun v H' hout => ?_⟩
  · rw [if_neg (by rw [hio]; exact fun z => nomatch z)]
    cases i with
    | zero =>
      simp at h1 h2
      subst h1; subst h2
      simp only [Rp]
      refine ⟨a, ns.map V.int, rfl, hS, by simpa using hl, ?_⟩
      clear h hS hl
      induction ns with
      | nil => simp [RpL]
      | cons x ns ih => simp only [List.map_cons, RpL]; exact ⟨_, _, rfl, by simp [Rp], ih⟩
    | succ i => simp at h1
  · obtain ⟨_, _, Hr, _, _, _, _, z⟩ := hout
    rw [if_neg (by simp [isRef])] at z
    have e : v = .bl true := by simpa only [Rp] using z
    rw [e]; exact q H'
def spLaw (K : PySem.W.Frag) : Sp := fun vs H Q _ => ∃ (a : Addr) (ns : List Int), vs = [.ref a] ∧ SqL K H a (ns.map V.int) ∧ ns.length ≤ 63 ∧ ∀ H', Q (.bl true) H'
end
end Ev

set_option Elab.async false
set_option linter.all false
set_option maxRecDepth 100000
set_option autoImplicit false
/-! the plain laws' tools: the evaluator on values -/
namespace Ev
open PySem
theorem run_succ {P : Prog} {wh n f : Nat} {ts : List T} {d : FnD} (h : P.fn f = some d) : run P wh (n + 1) f ts = evFn (ctx P wh n) d ts := by
  show (match P.fn f with | some d => _ | none => _) = _
  rw [h]; rfl
def isIo : Sl → Bool
  | .io _ => true
  | _ => false
theorem isIo_un : isIo .un = false := rfl
theorem isIo_sh {t : T} : isIo (.sh t) = false := rfl
theorem isIo_ow {t : T} : isIo (.ow t) = false := rfl
theorem isIo_io {t : T} : isIo (.io t) = true := rfl
theorem bnd_eq {i : Nat} {t : T} {fr : Bool} {env : Env} : bnd i t fr env = if isIo (env.getD i .un) then .bad else .ok () (env.set i (if fr then .ow t else .sh t)) := by
  unfold bnd
  cases h : env.getD i .un <;> simp [isIo]
theorem ctx_call {P : Prog} {wh n f : Nat} {ts : List T} : (ctx P wh n).call f ts = run P wh n f ts := rfl
theorem ctx_io {P : Prog} {wh n f : Nat} : (ctx P wh n).io f = ioOf P f := rfl
theorem ctx_glb {P : Prog} {wh n f : Nat} : (ctx P wh n).glb f = P.glb f := rfl
theorem ctx_wh {P : Prog} {wh n : Nat} : (ctx P wh n).wh = wh := rfl
theorem m_pure {α : Type} {a : α} {env : Env} : (M.pure a : M α) env = .ok a env := rfl
/-! ### loops and comprehensions -/
theorem wipe_len' {env : Env} (own : List Nat) : (wipe env own).length = env.length := wipe_len own
theorem unwipe_wipe {env : Env} : ∀ own : List Nat, unwipe env (wipe env own) own = env := fun own => by
  refine List.ext_getElem? fun i => ?_
  by_cases m : i ∈ own
  · by_cases hl : i < env.length
    · rw [unwipe_in m (by rw [wipe_len]; exact hl)]
      simp [List.getD, hl]
    · rw [List.getElem?_eq_none (by rw [unwipe_len, wipe_len]; omega), List.getElem?_eq_none (by omega)]
  · rw [unwipe_no m, wipe_no m]
section
variable {C : Ctx} {env env' : Env}
theorem each_ok {step : T → M (List T)} {g : T → List T} : ∀ {xs : List T}, (∀ x ∈ xs, step x env = .ok (g x) env) → each step xs env = .ok (xs.flatMap g) env
  | [], _ => rfl
  | x :: xs, h => by
    unfold each
    refine bind_ok.mpr ⟨_, _, h x List.mem_cons_self, bind_ok.mpr ⟨_, _, each_ok fun y m => h y (List.mem_cons_of_mem _ m), rfl⟩⟩
theorem block_ok2 {α : Type} {m : M α} {own : List Nat} {a : α} {e1 : Env} (hio : noIo env own = true) (h : m (wipe env own) = .ok a e1) : block own m env = .ok a (unwipe env e1 own) := by
  unfold block
  rw [hio, h]
/-- a turn of a comprehension -/
def compTurn (C : Ctx) (elt : Ex) (tg : Tg) (ifs : Exs) (own : List Nat) (x : T) : M (List T) := turn own (do
      evG C tg x false
      let b ← evTs C ifs
      if b then do
        let (y, _) ← evE C elt
        M.pure [y]
      else M.pure [])
theorem evE_comp_ok {elt : Ex} {tg : Tg} {it : It} {ifs : Exs} {own : List Nat} {xs : List T} {g : T → List T} (hit : evIt C it env = .ok xs env) (hio : noIo env own = true)
    (hb : ∀ x ∈ xs, compTurn C elt tg ifs own x (wipe env own) = .ok (g x) (wipe env own)) (hl : (xs.flatMap g).length ≤ LIM) : evE C (.comp elt tg it ifs own) env = .ok (.lst (xs.flatMap g), true) env := by
  rw [evE_comp]
  refine bind_ok.mpr ⟨_, _, hit, bind_ok.mpr ⟨_, env, ?_, bind_ok.mpr ⟨xs.flatMap g, env, ?_, rfl⟩⟩⟩
  · exact (block_ok2 hio (each_ok hb)).trans (by rw [unwipe_wipe])
  · unfold capped
    rw [if_pos hl]; rfl
theorem flatMap_map1 {α : Type} (c : α → T) (g : T → List T) (f : α → List T) (l : List α) (h : ∀ a ∈ l, g (c a) = f a) : (l.map c).flatMap g = l.flatMap f := by
  induction l with
  | nil => rfl
  | cons x l ih =>
    simp only [List.map_cons, List.flatMap_cons]
    rw [h x List.mem_cons_self, ih fun a m => h a (List.mem_cons_of_mem _ m)]
theorem each_map {α : Type} {step : T → M (List T)} {c : α → T} {g : α → List T} : ∀ {l : List α}, (∀ a ∈ l, step (c a) env = .ok (g a) env) → each step (l.map c) env = .ok (l.flatMap g) env
  | [], _ => rfl
  | x :: l, h => by
    rw [List.map_cons]
    unfold each
    refine bind_ok.mpr ⟨_, _, h x List.mem_cons_self, bind_ok.mpr ⟨_, _, each_map fun y m => h y (List.mem_cons_of_mem _ m), rfl⟩⟩
/-- a comprehension whose turns leave the names as they were -/
theorem comp_gen {α : Type} {l : List α} {c : α → T} {g : α → List T} {elt : Ex} {tg : Tg} {it : It} {ifs : Exs} {own : List Nat} (hit : evIt C it env = .ok (l.map c) env) (hio : noIo env own = true)
    (hb : ∀ a ∈ l, compTurn C elt tg ifs own (c a) (wipe env own) = .ok (g a) (wipe env own)) (hl : (l.flatMap g).length ≤ LIM) : evE C (.comp elt tg it ifs own) env = .ok (.lst (l.flatMap g), true) env := by
  rw [evE_comp]
  refine bind_ok.mpr ⟨_, _, hit, bind_ok.mpr ⟨_, env, ?_, bind_ok.mpr ⟨l.flatMap g, env, ?_, rfl⟩⟩⟩
  · exact (block_ok2 hio (each_map hb)).trans (by rw [unwipe_wipe])
  · unfold capped
    rw [if_pos hl]; rfl
theorem comp_map {α : Type} {l : List α} {c f : α → T} {elt : Ex} {tg : Tg} {it : It} {ifs : Exs} {own : List Nat} (hit : evIt C it env = .ok (l.map c) env) (hio : noIo env own = true)
    (hb : ∀ a ∈ l, compTurn C elt tg ifs own (c a) (wipe env own) = .ok [f a] (wipe env own)) (hl : l.length ≤ LIM) : evE C (.comp elt tg it ifs own) env = .ok (.lst (l.map f), true) env := by
  have e : ∀ l : List α, l.flatMap (fun a => [f a]) = l.map f := by
    intro l
    induction l with
    | nil => rfl
    | cons x l ih => rw [List.flatMap_cons, ih]; rfl
  have := comp_gen (g := fun a => [f a]) hit hio hb (by rw [e, List.length_map]; exact hl)
  rw [e] at this
  exact this
theorem comp_filter {α : Type} {l : List α} {c f : α → T} {p : α → Bool} {elt : Ex} {tg : Tg} {it : It} {ifs : Exs} {own : List Nat} (hit : evIt C it env = .ok (l.map c) env) (hio : noIo env own = true)
    (hb : ∀ a ∈ l, compTurn C elt tg ifs own (c a) (wipe env own) = .ok (if p a then [f a] else []) (wipe env own)) (hl : l.length ≤ LIM) : evE C (.comp elt tg it ifs own) env = .ok (.lst ((l.filter p).map f), true) env := by
  have e : ∀ l : List α, l.flatMap (fun a => if p a then [f a] else []) = (l.filter p).map f := by
    intro l
    induction l with
    | nil => rfl
    | cons x l ih =>
      rw [List.flatMap_cons, ih, List.filter_cons]
      by_cases h : p x = true
      · rw [if_pos h, if_pos h]; rfl
      · rw [if_neg h, if_neg h]; rfl
  have := comp_gen (g := fun a => if p a then [f a] else []) hit hio hb (by rw [e, List.length_map]; exact Nat.le_trans (List.length_filter_le _ _) hl)
  rw [e] at this
  exact this
theorem flatMap_one {α : Type} (f : α → T) (xs : List α) (l : α → T) : (xs.map l).flatMap (fun _ => []) = ([] : List T) := by
  induction xs with
  | nil => rfl
  | cons x xs ih => simp only [List.map_cons, List.flatMap_cons, List.nil_append, ih]
/-- a walk that keeps to an invariant, all its turns plain -/
theorem loopF_inv {step : T → M Fl} {I : Nat → Env → Prop} {xs : List T} (h : ∀ (i : Nat) (x : T) (env : Env), xs[i]? = some x → I i env → ∃ env', step x env = .ok .nx env' ∧ I (i + 1) env') :
    ∀ (k : Nat) (env : Env), I k env → ∃ env', loopF step (xs.drop k) env = .ok .nx env' ∧ (k ≤ xs.length → I xs.length env') := by
  intro k
  by_cases hk : k < xs.length
  · have key : ∀ (m k : Nat) (env : Env), xs.length - k = m → k ≤ xs.length → I k env → ∃ env', loopF step (xs.drop k) env = .ok .nx env' ∧ I xs.length env' := by
      intro m
      induction m with
      | zero =>
        intro k env e hk hI
        have : k = xs.length := by omega
        subst this
        rw [List.drop_length]
        exact ⟨env, rfl, hI⟩
      | succ m ih =>
        intro k env e hk hI
        have hlt : k < xs.length := by omega
        rw [List.drop_eq_getElem_cons hlt]
        obtain ⟨env1, h1, h2⟩ := h k _ env (List.getElem?_eq_getElem hlt) hI
        obtain ⟨env2, h3, h4⟩ := ih (k + 1) env1 (by omega) hlt h2
        refine ⟨env2, ?_, h4⟩
        unfold loopF
        exact bind_ok.mpr ⟨_, _, h1, h3⟩
    intro env hI
    obtain ⟨env', h1, h2⟩ := key _ k env rfl (by omega) hI
    exact ⟨env', h1, fun _ => h2⟩
  · intro env hI
    rw [List.drop_eq_nil_of_le (by omega)]
    refine ⟨env, rfl, fun h => ?_⟩
    have : k = xs.length := by omega
    rw [← this]; exact hI
theorem loopF_all {step : T → M Fl} {I : Nat → Env → Prop} {xs : List T} {env : Env} (h0 : I 0 env) (h : ∀ (i : Nat) (x : T) (env : Env), xs[i]? = some x → I i env → ∃ env', step x env = .ok .nx env' ∧ I (i + 1) env') :
    ∃ env', loopF step xs env = .ok .nx env' ∧ I xs.length env' := by
  obtain ⟨env', h1, h2⟩ := loopF_inv (I := I) h 0 env h0
  exact ⟨env', by simpa using h1, h2 (Nat.zero_le _)⟩
end
/-! ### statements -/
section
variable {C : Ctx} {env env1 : Env} {tg : Tg} {tgs : Tgs} {e c : Ex} {eo : Exo} {es : Exs} {a b ss : Sts} {s : St} {it : It} {k : Nat}
theorem evS_asg : evS C (.asg tg e) = (do
    let (t, fr) ← evE C e
    evG C tg t (fr && isRef t)
    M.pure .nx) := rfl
theorem evS_asg2 : evS C (.asg2 tgs es) = (do
    let ts ← evEp C es
    evGp C tgs (ts.map fun p => (p.1, p.2 && isRef p.1))
    M.pure .nx) := rfl
theorem evS_exp : evS C (.exp e) = (do
    let _ ← evE C e
    M.pure .nx) := rfl
theorem evS_ite : evS C (.ite c a b) = (do
    let t ← evT C c
    if t then evSs C a else evSs C b) := rfl
theorem evS_ret : evS C (.ret eo) = (do
    let (t, fr) ← evR C eo
    M.pure (.rt t (fr && isRef t))) := rfl
theorem evS_brk : evS C .brk = M.pure .bk := rfl
theorem evS_pass : evS C .pass = M.pure .nx := rfl
theorem evS_rse : evS C (.rse k es) = (do
    let ts ← evEs C es
    raise k (ts.headD .non)) := rfl
theorem evSs_nil : evSs C .nil = M.pure .nx := rfl
theorem evSs_cons : evSs C (.cons s ss) = (do
    match ← evS C s with
    | .nx => evSs C ss
    | .bk => M.pure .bk
    | .rt t fr => M.pure (.rt t fr)) := rfl
def forTurn (C : Ctx) (tg : Tg) (b : Sts) (x : T) : M Fl := do
  evG C tg x false
  evSs C b
theorem for_nx {α : Type} {l : List α} {f : α → T} {I : Nat → Env → Prop} (hit : evIt C it env = .ok (l.map f) env1) (h0 : I 0 env1) (h : ∀ (i : Nat) (a : α) (env : Env), l[i]? = some a → I i env → ∃ env', forTurn C tg b (f a) env = .ok .nx env' ∧ I (i + 1) env') :
    ∃ env', evS C (.for tg it b) env = .ok .nx env' ∧ I l.length env' := by
  obtain ⟨env', h1, h2⟩ := loopF_all (step := forTurn C tg b) (I := I) (xs := l.map f) h0 fun i x env hx hI => by
    rw [List.getElem?_map] at hx
    obtain ⟨a, ha, rfl⟩ := Option.map_eq_some_iff.mp hx
    exact h i a env ha hI
  rw [List.length_map] at h2
  exact ⟨env', bind_ok.mpr ⟨_, _, hit, h1⟩, h2⟩
theorem for_nx' {α : Type} {l : List α} {f : α → T} {I : Nat → Env → Prop} (hit : evIt C it env = .ok (l.map f) env) (h0 : I 0 env) (h : ∀ (i : Nat) (a : α) (env : Env), l[i]? = some a → I i env → ∃ env', forTurn C tg b (f a) env = .ok .nx env' ∧ I (i + 1) env') :
    ∃ env', evS C (.for tg it b) env = .ok .nx env' ∧ I l.length env' := for_nx hit h0 h
end
/-! ### values -/
abbrev iT (l : List Int) : List T := l.map T.int
abbrev pTs (l : List (Int × Int)) : List T := l.map pairT
theorem intsOf_map : ∀ l : List Int, intsOf (l.map T.int) = some l
  | [] => rfl
  | i :: l => by
    rw [List.map_cons]
    unfold intsOf
    rw [intsOf_map l]; rfl
theorem pairsOf_map : ∀ l : List (Int × Int), pairsOf (l.map pairT) = some l
  | [] => rfl
  | (i, j) :: l => by
    rw [List.map_cons]
    unfold pairT pairsOf
    have := pairsOf_map l
    unfold pairT at this
    rw [this]; rfl
theorem blsOf_map : ∀ l : List Bool, blsOf (l.map T.bl) = some l
  | [] => rfl
  | i :: l => by
    rw [List.map_cons]
    unfold blsOf
    rw [blsOf_map l]; rfl
theorem intsOf_pairs : ∀ {l : List (Int × Int)}, l ≠ [] → intsOf (l.map pairT) = none
  | [], h => absurd rfl h
  | (i, j) :: l, _ => rfl
theorem toDs_map {α : Type} (f : α → T) : ∀ l : List α, toDs (l.map f) = l.map fun x => (f x).toD
  | [] => rfl
  | x :: l => by
    rw [List.map_cons, List.map_cons]
    unfold toDs
    rw [toDs_map f l]
theorem datAll_map {α : Type} (n : Nat) (f : α → T) (h : ∀ x, (f x).dat n = true) : ∀ l : List α, datAll n (l.map f) = true
  | [] => rfl
  | x :: l => by
    rw [List.map_cons]
    unfold datAll
    rw [h x, datAll_map n f h l]; rfl
theorem dat_int (n : Nat) (i : Int) : (T.int i).dat n = true := rfl
theorem dat_bl (n : Nat) (b : Bool) : (T.bl b).dat n = true := rfl
theorem dat_non (n : Nat) : T.non.dat n = true := rfl
theorem dat_pair (n : Nat) (p : Int × Int) : (pairT p).dat (n + 1) = true := rfl
/-- == of two lists of data of one shape -/
theorem eqvAll_map {α : Type} [DecidableEq α] (f : α → T) (h : ∀ x y, PyData.eqv (f x).toD (f y).toD = decide (x = y)) : ∀ l m : List α, PyData.eqvAll (toDs (l.map f)) (toDs (m.map f)) = decide (l = m)
  | [], [] => rfl
  | [], y :: m => by
    rw [List.map_cons]
    unfold toDs PyData.eqvAll
    rfl
  | x :: l, [] => by
    rw [List.map_cons]
    unfold toDs PyData.eqvAll
    rfl
  | x :: l, y :: m => by
    rw [List.map_cons, List.map_cons]
    unfold toDs PyData.eqvAll
    rw [h, eqvAll_map f h l m, Bool.eq_iff_iff]
    simp
theorem eqv_int (x y : Int) : PyData.eqv (T.int x).toD (T.int y).toD = decide (x = y) := by
  show (x == y) = _
  rw [Bool.eq_iff_iff]; simp
theorem eqv_pair (x y : Int × Int) : PyData.eqv (pairT x).toD (pairT y).toD = decide (x = y) := by
  obtain ⟨a, b⟩ := x
  obtain ⟨c, d⟩ := y
  show ((a == c) && ((b == d) && true)) = _
  rw [Bool.eq_iff_iff]; simp
theorem eqT_int (x y : Int) : eqT (.int x) (.int y) = some (decide (x = y)) := by
  unfold eqT T.eqv
  rw [eqv_int]; rfl
theorem eqT_bl (x y : Bool) : eqT (.bl x) (.bl y) = some (x == y) := rfl
theorem eqT_lst {α : Type} [DecidableEq α] (f : α → T) (h : ∀ x y, PyData.eqv (f x).toD (f y).toD = decide (x = y)) (hd : ∀ x, (f x).dat 59 = true) (l m : List α) : eqT (.lst (l.map f)) (.lst (m.map f)) = some (decide (l = m)) := by
  unfold eqT T.eqv
  have d1 : (T.lst (l.map f)).dat 60 = true := by unfold T.dat; rw [datAll_map _ f hd]; rfl
  have d2 : (T.lst (m.map f)).dat 60 = true := by unfold T.dat; rw [datAll_map _ f hd]; rfl
  rw [d1, d2]
  show some (PyData.eqvAll (toDs (l.map f)) (toDs (m.map f))) = _
  rw [eqvAll_map f h]
theorem eqT_tup {α : Type} [DecidableEq α] (f : α → T) (h : ∀ x y, PyData.eqv (f x).toD (f y).toD = decide (x = y)) (hd : ∀ x, (f x).dat 59 = true) (l m : List α) : eqT (.tup (l.map f)) (.tup (m.map f)) = some (decide (l = m)) := by
  unfold eqT T.eqv
  have d1 : (T.tup (l.map f)).dat 60 = true := by unfold T.dat; rw [datAll_map _ f hd]; rfl
  have d2 : (T.tup (m.map f)).dat 60 = true := by unfold T.dat; rw [datAll_map _ f hd]; rfl
  rw [d1, d2]
  show some (PyData.eqvAll (toDs (l.map f)) (toDs (m.map f))) = _
  rw [eqvAll_map f h]
theorem inL_map {α : Type} [DecidableEq α] (f : α → T) (h : ∀ x y, PyData.eqv (f x).toD (f y).toD = decide (x = y)) (hd : ∀ x, (f x).dat 60 = true) (x : α) (l : List α) : inL (f x) (l.map f) = some (decide (x ∈ l)) := by
  unfold inL
  rw [hd x, datAll_map _ f hd]
  have : (l.map f).any (fun y => y.eqv (f x)) = decide (x ∈ l) := by
    induction l with
    | nil => rfl
    | cons y l ih =>
      rw [List.map_cons, List.any_cons, ih]
      unfold T.eqv
      rw [h, Bool.eq_iff_iff]
      simp only [Bool.or_eq_true, decide_eq_true_eq, List.mem_cons]
      exact or_congr eq_comm Iff.rfl
  rw [this]; rfl
theorem rng_nat (n : Nat) : rng 0 (n : Int) = (List.range n).map fun (i : Nat) => T.int (i : Int) := by
  unfold rng
  rw [show ((n : Int) - 0).toNat = n by omega]
  refine List.map_congr_left fun i _ => ?_
  rw [Int.zero_add]
theorem rngT_nat {n : Nat} (h : n ≤ LIM) : rngT 0 (n : Int) = some ((List.range n).map fun (i : Nat) => T.int (i : Int)) := by
  unfold rngT
  rw [if_pos (by unfold LIM at h ⊢; omega), rng_nat]
theorem rngT_lst {a b : Int} (h : -LIM ≤ a ∧ a ≤ LIM ∧ -LIM ≤ b ∧ b ≤ LIM) : rngT a b = some ((List.range (b - a).toNat).map fun (i : Nat) => T.int (a + i)) := by
  unfold rngT
  rw [if_pos h]; rfl
theorem lex_pair (a b c d : Int) : HT.lexLt [a, b] [c, d] = lexP (a, b) (c, d) := by
  unfold lexP
  rw [Bool.eq_iff_iff]
  simp only [HT.lexLt]
  by_cases h1 : a = c
  · subst h1
    simp only [if_true]
    by_cases h2 : b = d
    · simp [h2]
    · simp [h2]
  · simp [h1]
theorem ltT_pair (p q : Int × Int) : ltT (pairT p) (pairT q) = some (lexP p q) := by
  obtain ⟨a, b⟩ := p
  obtain ⟨c, d⟩ := q
  show some (HT.lexLt [a, b] [c, d]) = _
  rw [lex_pair]
theorem mulOk_l {i j : Int} (h : i.natAbs < 2 ^ 64) : mulOk i j = true := by
  unfold mulOk
  rw [decide_eq_true h]; rfl
theorem mul_ok {i j : Int} (h : i.natAbs < 2 ^ 64) : binF .mul (.int i) (.int j) = some (.int (i * j), true) := by
  show (((if mulOk i j then some (T.int (i * j)) else none).map fun z => (z, true)).or _) = _
  rw [if_pos (mulOk_l h)]; rfl
theorem big_pow : (2 ^ 62 : Int) ≤ 2 ^ 8000 := by
  have h : (2 : Nat) ^ 62 ≤ 2 ^ 8000 := Nat.pow_le_pow_right (by decide) (by decide)
  exact_mod_cast h
theorem fdiv_ok {i j : Int} (h : 0 < j) (h2 : j < 2 ^ 62) : binF .fdiv (.int i) (.int j) = some (.int (i / j), true) := by
  show ((if 0 < j ∧ j < 2 ^ 8000 then some (T.int (i / j)) else none).map fun z => (z, true)) = _
  rw [if_pos ⟨h, Int.lt_of_lt_of_le h2 big_pow⟩]; rfl
theorem mod_ok {i j : Int} (h : 0 < j) : binF .mod (.int i) (.int j) = some (.int (i % j), true) := by
  show ((if 0 < j then some (T.int (i % j)) else none).map fun z => (z, true)) = _
  rw [if_pos h]; rfl
theorem add_ok {i j : Int} : binF .add (.int i) (.int j) = some (.int (i + j), true) := rfl
theorem sub_ok {i j : Int} : binF .sub (.int i) (.int j) = some (.int (i - j), true) := rfl
theorem addl_ok {xs ys : List T} (h : xs.length + ys.length ≤ LIM) : binF .add (.lst xs) (.lst ys) = some (.lst (xs ++ ys), true) := by
  show (none : Option (T × Bool)).or ((none : Option (T × Bool)).or ((none : Option (T × Bool)).or (if xs.length + ys.length ≤ LIM then some (.lst (xs ++ ys), true) else none))) = _
  rw [if_pos h]; rfl
theorem sorted_ints (l : List Int) : bifF .sorted [.lst (l.map T.int)] = some (.lst ((sortI l).map T.int), true) := by
  show ((intsOf (l.map T.int)).map fun ns => (T.lst ((sortI ns).map T.int), true)).or _ = _
  rw [intsOf_map]; rfl
theorem sorted_pairs {l : List (Int × Int)} (h : l ≠ []) : bifF .sorted [.lst (l.map pairT)] = some (.lst ((sortP l).map pairT), true) := by
  have e1 : sortIF (.lst (l.map pairT)) = none := by
    show (intsOf _).map _ = _
    rw [intsOf_pairs h]; rfl
  have e2 : sortPF (.lst (l.map pairT)) = some (.lst ((sortP l).map pairT), true) := by
    show (pairsOf _).map _ = _
    rw [pairsOf_map]; rfl
  show (sortIF (.lst (l.map pairT))).or ((sortPF (.lst (l.map pairT))).or (sortTF (.lst (l.map pairT)))) = _
  rw [e1, e2]; rfl
theorem evFn_rt {C : Ctx} {d : FnD} {ts : List T} {env : Env} {t : T} {fr : Bool} {out : Option T} (hl : ts.length = d.np) (h : evSs C d.body (Ev.start d ts) = .ok (.rt t fr) env) (ho : outOf env d.io = some out) : evFn C d ts = .ok t fr out := by
  unfold evFn
  rw [if_pos hl, h]
  simp only [ho]
end Ev

set_option Elab.async false
set_option linter.all false
set_option maxRecDepth 100000
set_option maxHeartbeats 4000000
set_option autoImplicit false
namespace G51
open Ev
abbrev f_is_whole : Nat := 0
abbrev f_is_between : Nat := 1
abbrev f_is_number : Nat := 2
abbrev f_is_tuple_of : Nat := 3
abbrev f_are_rising : Nat := 4
abbrev f_first_wrong : Nat := 5
abbrev f_is_win : Nat := 6
abbrev f_are_wins : Nat := 7
abbrev f_are_games_by : Nat := 8
abbrev f_players_of : Nat := 9
abbrev f_points_by : Nat := 10
abbrev f_pairs_of : Nat := 11
abbrev f_lots_of : Nat := 12
abbrev f_own_games_by : Nat := 13
abbrev f_sum_over : Nat := 14
abbrev f_check_games : Nat := 15
abbrev f_check_number : Nat := 16
abbrev f_check_numbers : Nat := 17
abbrev f_is_half : Nat := 18
abbrev f_wrong_in_halves : Nat := 19
abbrev f_points_of_halves : Nat := 20
abbrev f_has_right_sum : Nat := 21
abbrev f_short_halves_lot_by : Nat := 22
abbrev f_is_halves_list_by : Nat := 23
abbrev f_halves_points : Nat := 24
abbrev f_is_halves_list : Nat := 25
abbrev f_points : Nat := 26
abbrev f_own_games : Nat := 27
abbrev f_Llaw_pool : Nat := 28
abbrev f_Llaw_take : Nat := 29
abbrev f_Llaw_alike : Nat := 30
abbrev f_Llaw_pairs : Nat := 31
abbrev f_Llaw_results : Nat := 32
abbrev f_Llaw_order : Nat := 33
abbrev f_Llaw_sum_of : Nat := 34
abbrev f_law : Nat := 35
/-- def is_whole(value) -/
def d_is_whole : FnD := { np := 1, ns := 1, io := none, body :=
  (.cons (.ret (.some (.and (.isi (.var 0) [.int]) (.not (.isi (.var 0) [.bool])))))
  .nil) }
/-- def is_between(value, low, high) -/
def d_is_between : FnD := { np := 3, ns := 3, io := none, body :=
  (.cons (.ret (.some (.and (.call f_is_whole (.cons (.var 0) .nil)) (.chn .le .le (.var 1) (.var 0) (.var 2)))))
  .nil) }
/-- def is_number(value) -/
def d_is_number : FnD := { np := 1, ns := 1, io := none, body :=
  (.cons (.ret (.some (.and (.call f_is_whole (.cons (.var 0) .nil)) (.cmp .ge (.var 0) (.k (.int 0))))))
  .nil) }
/-- def is_tuple_of(value, many) -/
def d_is_tuple_of : FnD := { np := 2, ns := 2, io := none, body :=
  (.cons (.ret (.some (.and (.isi (.var 0) [.tuple]) (.cmp .eq (.bif .len (.cons (.var 0) .nil)) (.var 1)))))
  .nil) }
/-- def are_rising(value, index) -/
def d_are_rising : FnD := { np := 1, ns := 2, io := none, body :=
  (.cons (.ret (.some (.bif .all (.cons (.comp (.cmp .lt (.idx (.var 0) (.bin .sub (.var 1) (.k (.int 1)))) (.idx (.var 0) (.var 1))) (.nm 1) (.r2 (.k (.int 1)) (.bif .len (.cons (.var 0) .nil))) .nil [1]) .nil))))
  .nil) }
/-- def first_wrong(value, low, high, is_one, index, each) -/
def d_first_wrong : FnD := { np := 4, ns := 6, io := none, body :=
  (.cons (.ite (.or (.not (.isi (.var 0) [.tuple])) (.not (.chn .le .le (.var 1) (.bif .len (.cons (.var 0) .nil)) (.var 2))))
  (.cons (.ret (.some (.lst (.cons (.k .non) .nil))))
  .nil)
  .nil)
  (.cons (.ret (.some (.slc (.comp (.var 4) (.tp (.cons (.nm 4) (.cons (.nm 5) .nil))) (.enum (.var 0)) (.cons (.not (.callv 3 [f_is_number, f_is_half] (.cons (.var 5) .nil))) .nil) [4, 5]) .none (.some (.k (.int 1))))))
  .nil)) }
/-- def is_win(many, value) -/
def d_is_win : FnD := { np := 2, ns := 2, io := none, body :=
  (.cons (.ite (.or (.not (.call f_is_tuple_of (.cons (.var 1) (.cons (.k (.int 2)) .nil)))) (.or (.not (.call f_is_between (.cons (.idx (.var 1) (.k (.int 0))) (.cons (.k (.int 0)) (.cons (.bin .sub (.var 0) (.k (.int 1))) .nil))))) (.not (.call f_is_between (.cons (.idx (.var 1) (.k (.int 1))) (.cons (.k (.int 0)) (.cons (.bin .sub (.var 0) (.k (.int 1))) .nil)))))))
  (.cons (.ret (.some (.k (.bl false))))
  .nil)
  .nil)
  (.cons (.ret (.some (.cmp .ne (.idx (.var 1) (.k (.int 0))) (.idx (.var 1) (.k (.int 1))))))
  .nil)) }
/-- def are_wins(many, value, each, one, two) -/
def d_are_wins : FnD := { np := 2, ns := 5, io := none, body :=
  (.cons (.ite (.or (.not (.isi (.var 1) [.tuple])) (.or (.not (.bif .all (.cons (.comp (.call f_is_win (.cons (.var 0) (.cons (.var 2) .nil))) (.nm 2) (.ex (.var 1)) .nil [2]) .nil))) (.not (.call f_are_rising (.cons (.var 1) .nil)))))
  (.cons (.ret (.some (.k (.bl false))))
  .nil)
  .nil)
  (.cons (.ret (.some (.not (.bif .any (.cons (.comp (.cmp .isin (.tup (.cons (.var 4) (.cons (.var 3) .nil))) (.var 1)) (.tp (.cons (.nm 3) (.cons (.nm 4) .nil))) (.ex (.var 1)) .nil [3, 4]) .nil)))))
  .nil)) }
/-- def are_games_by(value) -/
def d_are_games_by : FnD := { np := 1, ns := 1, io := none, body :=
  (.cons (.ite (.or (.not (.call f_is_tuple_of (.cons (.var 0) (.cons (.k (.int 2)) .nil)))) (.not (.call f_is_between (.cons (.idx (.var 0) (.glb 1)) (.cons (.k (.int 1)) (.cons (.glb 0) .nil))))))
  (.cons (.ret (.some (.k (.bl false))))
  .nil)
  .nil)
  (.cons (.ret (.some (.call f_are_wins (.cons (.idx (.var 0) (.glb 1)) (.cons (.idx (.var 0) (.glb 2)) .nil)))))
  .nil)) }
/-- def players_of(games) -/
def d_players_of : FnD := { np := 1, ns := 1, io := none, body :=
  (.cons (.ret (.some (.lrng false (.r1 (.idx (.var 0) (.glb 1))))))
  .nil) }
/-- def points_by(games, found, one, _) -/
def d_points_by : FnD := { np := 1, ns := 4, io := none, body :=
  (.cons (.asg (.nm 1) (.comp (.k (.int 0)) (.nm 3) (.ex (.call f_players_of (.cons (.var 0) .nil))) .nil [3]))
  (.cons (.for (.tp (.cons (.nm 2) (.cons (.nm 3) .nil))) (.ex (.idx (.var 0) (.glb 2)))
  (.cons (.asg (.sub 1 (.var 2)) (.bin .add (.idx (.var 1) (.var 2)) (.k (.int 1))))
  .nil))
  (.cons (.ret (.some (.bif .tuple (.cons (.var 1) .nil))))
  .nil))) }
/-- def pairs_of(many, one, two) -/
def d_pairs_of : FnD := { np := 1, ns := 3, io := none, body :=
  (.cons (.ret (.some (.bif .tuple (.cons (.comp2 (.tup (.cons (.var 1) (.cons (.var 2) .nil))) (.nm 1) (.r1 (.var 0)) .nil (.nm 2) (.r2 (.bin .add (.var 1) (.k (.int 1))) (.var 0)) .nil [1, 2] [2]) .nil))))
  .nil) }
/-- def lots_of(many, found, player, lot) -/
def d_lots_of : FnD := { np := 1, ns := 4, io := none, body :=
  (.cons (.asg (.nm 1) (.lst (.cons (.tup .nil) .nil)))
  (.cons (.for (.nm 2) (.r1 (.var 0))
  (.cons (.asg (.nm 1) (.bin .add (.var 1) (.comp (.bin .add (.var 3) (.tup (.cons (.var 2) .nil))) (.nm 3) (.ex (.var 1)) .nil [3])))
  .nil))
  (.cons (.ret (.some (.bif .sorted (.cons (.var 1) .nil))))
  .nil))) }
/-- def own_games_by(many) -/
def d_own_games_by : FnD := { np := 1, ns := 1, io := none, body :=
  (.cons (.ret (.some (.bin .fdiv (.bin .mul (.var 0) (.bin .sub (.var 0) (.k (.int 1)))) (.k (.int 2)))))
  .nil) }
/-- def sum_over(numbers, lot, player) -/
def d_sum_over : FnD := { np := 2, ns := 3, io := none, body :=
  (.cons (.ret (.some (.bif .sum (.cons (.comp (.idx (.var 0) (.var 2)) (.nm 2) (.ex (.var 1)) .nil [2]) .nil))))
  .nil) }
/-- def check_games(value) -/
def d_check_games : FnD := { np := 1, ns := 1, io := none, body :=
  (.cons (.ite (.not (.call f_are_games_by (.cons (.var 0) .nil)))
  (.cons (.rse 1 (.cons (.var 0) .nil))
  .nil)
  .nil)
  .nil) }
/-- def check_number(value, low, high) -/
def d_check_number : FnD := { np := 3, ns := 3, io := none, body :=
  (.cons (.ite (.not (.call f_is_between (.cons (.var 0) (.cons (.var 1) (.cons (.var 2) .nil)))))
  (.cons (.rse 2 (.cons (.var 0) .nil))
  .nil)
  .nil)
  .nil) }
/-- def check_numbers(value, index) -/
def d_check_numbers : FnD := { np := 1, ns := 2, io := none, body :=
  (.cons (.for (.nm 1) (.ex (.call f_first_wrong (.cons (.var 0) (.cons (.k (.int 1)) (.cons (.glb 0) (.cons (.k (.fn f_is_number)) .nil))))))
  (.cons (.rse 3 (.cons (.var 1) .nil))
  .nil))
  .nil) }
/-- def is_half(value) -/
def d_is_half : FnD := { np := 1, ns := 1, io := none, body :=
  (.cons (.ret (.some (.call f_is_between (.cons (.var 0) (.cons (.k (.int 0)) (.cons (.k (.int 2)) .nil))))))
  .nil) }
/-- def wrong_in_halves(many, value) -/
def d_wrong_in_halves : FnD := { np := 2, ns := 2, io := none, body :=
  (.cons (.ret (.some (.call f_first_wrong (.cons (.var 1) (.cons (.call f_own_games_by (.cons (.var 0) .nil)) (.cons (.call f_own_games_by (.cons (.var 0) .nil)) (.cons (.k (.fn f_is_half)) .nil)))))))
  .nil) }
/-- def points_of_halves(many, halves, found, half, _, one, two) -/
def d_points_of_halves : FnD := { np := 2, ns := 7, io := none, body :=
  (.cons (.asg (.nm 2) (.comp (.k (.int 0)) (.nm 4) (.r1 (.var 0)) .nil [4]))
  (.cons (.for (.tp (.cons (.tp (.cons (.nm 5) (.cons (.nm 6) .nil))) (.cons (.nm 3) .nil))) (.zip (.call f_pairs_of (.cons (.var 0) .nil)) (.var 1))
  (.cons (.asg (.sub 2 (.var 5)) (.bin .add (.idx (.var 2) (.var 5)) (.var 3)))
  (.cons (.asg (.sub 2 (.var 6)) (.bin .sub (.bin .add (.idx (.var 2) (.var 6)) (.k (.int 2))) (.var 3)))
  .nil)))
  (.cons (.ret (.some (.bif .tuple (.cons (.var 2) .nil))))
  .nil))) }
/-- def has_right_sum(numbers) -/
def d_has_right_sum : FnD := { np := 1, ns := 1, io := none, body :=
  (.cons (.ret (.some (.cmp .eq (.bif .sum (.cons (.var 0) .nil)) (.bin .mul (.k (.int 2)) (.call f_own_games_by (.cons (.bif .len (.cons (.var 0) .nil)) .nil))))))
  .nil) }
/-- def short_halves_lot_by(numbers, lots, lot) -/
def d_short_halves_lot_by : FnD := { np := 1, ns := 3, io := none, body :=
  (.cons (.asg (.nm 1) (.comp (.var 2) (.nm 2) (.ex (.call f_lots_of (.cons (.bif .len (.cons (.var 0) .nil)) .nil))) (.cons (.cmp .lt (.call f_sum_over (.cons (.var 0) (.cons (.var 2) .nil))) (.bin .mul (.k (.int 2)) (.call f_own_games_by (.cons (.bif .len (.cons (.var 2) .nil)) .nil)))) .nil) [2]))
  (.cons (.ret (.some (.ite (.cmp .ne (.var 1) (.lst .nil)) (.idx (.var 1) (.k (.int 0))) (.k .non))))
  .nil)) }
/-- def is_halves_list_by(numbers) -/
def d_is_halves_list_by : FnD := { np := 1, ns := 1, io := none, body :=
  (.cons (.ret (.some (.and (.call f_has_right_sum (.cons (.var 0) .nil)) (.cmp .is (.call f_short_halves_lot_by (.cons (.var 0) .nil)) (.k .non)))))
  .nil) }
/-- def halves_points(many, halves, index) -/
def d_halves_points : FnD := { np := 2, ns := 3, io := none, body :=
  (.cons (.exp (.call f_check_number (.cons (.var 0) (.cons (.k (.int 1)) (.cons (.glb 0) .nil)))))
  (.cons (.for (.nm 2) (.ex (.call f_wrong_in_halves (.cons (.var 0) (.cons (.var 1) .nil))))
  (.cons (.rse 4 (.cons (.var 2) .nil))
  .nil))
  (.cons (.ret (.some (.call f_points_of_halves (.cons (.var 0) (.cons (.var 1) .nil)))))
  .nil))) }
/-- def is_halves_list(numbers) -/
def d_is_halves_list : FnD := { np := 1, ns := 1, io := none, body :=
  (.cons (.exp (.call f_check_numbers (.cons (.var 0) .nil)))
  (.cons (.ret (.some (.call f_is_halves_list_by (.cons (.var 0) .nil))))
  .nil)) }
/-- def points(games) -/
def d_points : FnD := { np := 1, ns := 1, io := none, body :=
  (.cons (.exp (.call f_check_games (.cons (.var 0) .nil)))
  (.cons (.ret (.some (.call f_points_by (.cons (.var 0) .nil))))
  .nil)) }
/-- def own_games(many) -/
def d_own_games : FnD := { np := 1, ns := 1, io := none, body :=
  (.cons (.exp (.call f_check_number (.cons (.var 0) (.cons (.k (.int 0)) (.cons (.glb 3) .nil)))))
  (.cons (.ret (.some (.call f_own_games_by (.cons (.var 0) .nil))))
  .nil)) }
/-- def _law_pool(script, k, cell, size, stir) -/
def d_Llaw_pool : FnD := { np := 2, ns := 5, io := none, body :=
  (.cons (.asg (.nm 2) (.bin .add (.bin .mul (.k (.int 7)) (.var 1)) (.bin .mul (.k (.int 3)) (.bif .len (.cons (.var 0) .nil)))))
  (.cons (.ite (.cmp .lt (.var 1) (.bif .len (.cons (.var 0) .nil)))
  (.cons (.asg (.nm 2) (.idx (.var 0) (.var 1)))
  .nil)
  .nil)
  (.cons (.asg (.nm 3) (.bif .abs (.cons (.var 2) .nil)))
  (.cons (.asg (.nm 4) (.bin .mod (.bif .int (.cons (.bin .add (.bin .add (.bin .add (.bin .mul (.var 3) (.k (.int 48271))) (.bin .mul (.k (.int 16807)) (.var 1))) (.bin .mul (.k (.int 11)) (.bif .int (.cons (.cmp .lt (.var 2) (.k (.int 0))) .nil)))) (.k (.int 1))) .nil)) (.k (.int 2305843009213693951))))
  (.cons (.ite (.cmp .ge (.var 3) (.k (.int 1000000000000000000)))
  (.cons (.ret (.some (.lst (.cons (.bin .add (.bin .mul (.k (.int 2)) (.bin .sub (.var 3) (.k (.int 1000000000000000000)))) (.bif .int (.cons (.cmp .lt (.var 2) (.k (.int 0))) .nil))) (.cons (.var 4) .nil)))))
  .nil)
  .nil)
  (.cons (.ret (.some (.lst (.cons (.k (.int 0)) (.cons (.var 4) .nil)))))
  .nil)))))) }
/-- def _law_take(pool, many, told, reach) -/
def d_Llaw_take : FnD := { np := 2, ns := 4, io := some 0, body :=
  (.cons (.ite (.cmp .gt (.idx (.var 0) (.k (.int 0))) (.k (.int 1)))
  (.cons (.asg (.nm 2) (.bin .mod (.bif .int (.cons (.idx (.var 0) (.k (.int 0))) .nil)) (.var 1)))
  (.cons (.asg (.sub 0 (.k (.int 0))) (.bin .fdiv (.idx (.var 0) (.k (.int 0))) (.var 1)))
  (.cons (.ret (.some (.var 2)))
  .nil)))
  .nil)
  (.cons (.asg (.nm 2) (.k (.int 0)))
  (.cons (.asg (.nm 3) (.k (.int 1)))
  (.cons (.whl (.cmp .lt (.var 3) (.bin .mul (.k (.int 16777216)) (.var 1)))
  (.cons (.asg (.sub 0 (.k (.int 1))) (.bin .mod (.bif .int (.cons (.bin .add (.bin .mul (.idx (.var 0) (.k (.int 1))) (.k (.int 6364136223846793005))) (.k (.int 1442695040888963407))) .nil)) (.k (.int 18446744073709551616))))
  (.cons (.asg (.nm 2) (.bin .add (.bin .mul (.var 2) (.k (.int 16777216))) (.bin .fdiv (.idx (.var 0) (.k (.int 1))) (.k (.int 1099511627776)))))
  (.cons (.asg (.nm 3) (.bin .mul (.var 3) (.k (.int 16777216))))
  .nil))))
  (.cons (.ret (.some (.bin .mod (.bif .int (.cons (.var 2) .nil)) (.var 1))))
  .nil))))) }
/-- def _law_alike(one, two, k) -/
def d_Llaw_alike : FnD := { np := 2, ns := 3, io := none, body :=
  (.cons (.ite (.or (.isi (.var 0) [.bool]) (.isi (.var 1) [.bool]))
  (.cons (.ret (.some (.and (.isi (.var 0) [.bool]) (.and (.isi (.var 1) [.bool]) (.cmp .eq (.var 0) (.var 1))))))
  .nil)
  .nil)
  (.cons (.ite (.or (.isi (.var 0) [.int]) (.isi (.var 1) [.int]))
  (.cons (.ret (.some (.and (.isi (.var 0) [.int]) (.and (.isi (.var 1) [.int]) (.cmp .eq (.var 0) (.var 1))))))
  .nil)
  .nil)
  (.cons (.ite (.or (.isi (.var 0) [.str]) (.isi (.var 1) [.str]))
  (.cons (.ret (.some (.and (.isi (.var 0) [.str]) (.and (.isi (.var 1) [.str]) (.cmp .eq (.var 0) (.var 1))))))
  .nil)
  .nil)
  (.cons (.ite (.or (.cmp .is (.var 0) (.k .non)) (.cmp .is (.var 1) (.k .non)))
  (.cons (.ret (.some (.and (.cmp .is (.var 0) (.k .non)) (.cmp .is (.var 1) (.k .non)))))
  .nil)
  .nil)
  (.cons (.ite (.or (.isi (.var 0) [.dict]) (.isi (.var 1) [.dict]))
  (.cons (.ret (.some (.and (.isi (.var 0) [.dict]) (.and (.isi (.var 1) [.dict]) (.chn .eq .eq (.bif .len (.cons (.var 0) .nil)) (.bif .len (.cons (.var 1) .nil)) (.k (.int 0)))))))
  .nil)
  .nil)
  (.cons (.ite (.or (.cmp .ne (.isi (.var 0) [.tuple]) (.isi (.var 1) [.tuple])) (.cmp .ne (.isi (.var 0) [.list]) (.isi (.var 1) [.list])))
  (.cons (.ret (.some (.k (.bl false))))
  .nil)
  .nil)
  (.cons (.ite (.or (.not (.isi (.var 0) [.tuple, .list])) (.cmp .ne (.bif .len (.cons (.var 0) .nil)) (.bif .len (.cons (.var 1) .nil))))
  (.cons (.ret (.some (.k (.bl false))))
  .nil)
  .nil)
  (.cons (.ret (.some (.bif .all (.cons (.comp (.call f_Llaw_alike (.cons (.idx (.var 0) (.var 2)) (.cons (.idx (.var 1) (.var 2)) .nil))) (.nm 2) (.r1 (.bif .len (.cons (.var 0) .nil))) .nil [2]) .nil))))
  .nil)))))))) }
/-- def _law_pairs(many, found, one, two) -/
def d_Llaw_pairs : FnD := { np := 1, ns := 4, io := none, body :=
  (.cons (.asg (.nm 1) (.lst .nil))
  (.cons (.for (.nm 2) (.r1 (.var 0))
  (.cons (.asg (.nm 1) (.bin .add (.var 1) (.comp (.tup (.cons (.var 2) (.cons (.var 3) .nil))) (.nm 3) (.r2 (.bin .add (.var 2) (.k (.int 1))) (.var 0)) .nil [3])))
  .nil))
  (.cons (.ret (.some (.var 1)))
  .nil))) }
/-- def _law_results(pool, many, kind, order, wins, one, two, turned, a, b) -/
def d_Llaw_results : FnD := { np := 2, ns := 10, io := some 0, body :=
  (.cons (.asg (.nm 2) (.call f_Llaw_take (.cons (.var 0) (.cons (.k (.int 3)) .nil))))
  (.cons (.asg (.nm 3) (.call f_Llaw_order (.cons (.var 0) (.cons (.var 1) .nil))))
  (.cons (.asg (.nm 4) (.lst .nil))
  (.cons (.for (.tp (.cons (.nm 5) (.cons (.nm 6) .nil))) (.ex (.call f_Llaw_pairs (.cons (.var 1) .nil)))
  (.cons (.asg2 (.cons (.nm 8) (.cons (.nm 9) .nil)) (.cons (.idx (.var 3) (.var 5)) (.cons (.idx (.var 3) (.var 6)) .nil)))
  (.cons (.asg (.nm 7) (.cmp .eq (.call f_Llaw_take (.cons (.var 0) (.cons (.k (.int 2)) .nil))) (.k (.int 0))))
  (.cons (.ite (.cmp .eq (.var 2) (.k (.int 1)))
  (.cons (.asg (.nm 7) (.cmp .eq (.call f_Llaw_take (.cons (.var 0) (.cons (.k (.int 7)) .nil))) (.k (.int 0))))
  .nil)
  .nil)
  (.cons (.ite (.cmp .eq (.var 2) (.k (.int 2)))
  (.cons (.asg (.nm 7) (.and (.cmp .gt (.bin .sub (.var 6) (.var 5)) (.k (.int 1))) (.cmp .gt (.call f_Llaw_take (.cons (.var 0) (.cons (.k (.int 3)) .nil))) (.k (.int 0)))))
  .nil)
  .nil)
  (.cons (.exp (.app 4 (.ite (.var 7) (.tup (.cons (.var 9) (.cons (.var 8) .nil))) (.tup (.cons (.var 8) (.cons (.var 9) .nil))))))
  .nil))))))
  (.cons (.ret (.some (.tup (.cons (.var 1) (.cons (.bif .tuple (.cons (.bif .sorted (.cons (.var 4) .nil)) .nil)) .nil)))))
  .nil))))) }
/-- def _law_order(pool, many, left, found) -/
def d_Llaw_order : FnD := { np := 2, ns := 4, io := some 0, body :=
  (.cons (.asg2 (.cons (.nm 2) (.cons (.nm 3) .nil)) (.cons (.lrng false (.r1 (.var 1))) (.cons (.lst .nil) .nil)))
  (.cons (.whl (.cmp .ne (.var 2) (.lst .nil))
  (.cons (.exp (.app 3 (.pop 2 (.some (.call f_Llaw_take (.cons (.var 0) (.cons (.bif .len (.cons (.var 2) .nil)) .nil)))))))
  .nil))
  (.cons (.ret (.some (.bif .tuple (.cons (.var 3) .nil))))
  .nil))) }
/-- def _law_sum_of(many, halves, told, pair, each) -/
def d_Llaw_sum_of : FnD := { np := 2, ns := 5, io := none, body :=
  (.cons (.asg (.nm 2) (.bin .mul (.lst (.cons (.k (.int 0)) .nil)) (.var 0)))
  (.cons (.for (.tp (.cons (.nm 3) (.cons (.nm 4) .nil))) (.zip (.call f_Llaw_pairs (.cons (.var 0) .nil)) (.var 1))
  (.cons (.asg (.sub 2 (.idx (.var 3) (.k (.int 0)))) (.bin .add (.idx (.var 2) (.idx (.var 3) (.k (.int 0)))) (.var 4)))
  (.cons (.asg (.sub 2 (.idx (.var 3) (.k (.int 1)))) (.bin .sub (.bin .add (.idx (.var 2) (.idx (.var 3) (.k (.int 1)))) (.k (.int 2))) (.var 4)))
  .nil)))
  (.cons (.ret (.some (.bif .tuple (.cons (.var 2) .nil))))
  .nil))) }
/-- def law(script, turn, pool, many, pairs, halves, results, told, due, back, pair, each) -/
def d_law : FnD := { np := 1, ns := 12, io := none, body :=
  (.cons (.for (.nm 1) (.r1 (.bif .min2 (.cons (.k (.int 20)) (.cons (.bif .max2 (.cons (.k (.int 5)) (.cons (.bif .len (.cons (.var 0) .nil)) .nil))) .nil))))
  (.cons (.asg (.nm 2) (.call f_Llaw_pool (.cons (.var 0) (.cons (.var 1) .nil))))
  (.cons (.asg (.nm 3) (.bin .add (.k (.int 1)) (.call f_Llaw_take (.cons (.var 2) (.cons (.k (.int 8)) .nil)))))
  (.cons (.asg (.nm 4) (.call f_Llaw_pairs (.cons (.var 3) .nil)))
  (.cons (.for (.nm 5) (.ex (.tup (.cons (.bif .tuple (.cons (.comp (.call f_Llaw_take (.cons (.var 2) (.cons (.k (.int 3)) .nil))) (.nm 10) (.ex (.var 4)) .nil [10]) .nil)) (.cons (.bif .tuple (.cons (.comp (.bin .mul (.k (.int 2)) (.call f_Llaw_take (.cons (.var 2) (.cons (.k (.int 2)) .nil)))) (.nm 10) (.ex (.var 4)) .nil [10]) .nil)) (.cons (.bin .mul (.tup (.cons (.call f_Llaw_take (.cons (.var 2) (.cons (.k (.int 3)) .nil))) .nil)) (.bif .len (.cons (.var 4) .nil))) .nil)))))
  (.cons (.asg (.nm 8) (.call f_Llaw_sum_of (.cons (.var 3) (.cons (.var 5) .nil))))
  (.cons (.ite (.or (.not (.call f_Llaw_alike (.cons (.tup (.cons (.call f_halves_points (.cons (.var 3) (.cons (.var 5) .nil))) (.cons (.callk f_halves_points .nil (.cons (.var 5) (.cons (.var 3) .nil)) [1, 0]) .nil))) (.cons (.tup (.cons (.var 8) (.cons (.var 8) .nil))) .nil)))) (.or (.cmp .ne (.bif .sum (.cons (.var 8) .nil)) (.bin .mul (.k (.int 2)) (.call f_own_games (.cons (.var 3) .nil)))) (.cmp .isnt (.call f_is_halves_list (.cons (.var 8) .nil)) (.k (.bl true)))))
  (.cons (.ret (.some (.k (.bl false))))
  .nil)
  .nil)
  (.cons (.asg (.nm 9) (.bif .tuple (.cons (.comp (.bin .sub (.k (.int 2)) (.var 11)) (.nm 11) (.ex (.var 5)) .nil [11]) .nil)))
  (.cons (.ite (.not (.call f_Llaw_alike (.cons (.call f_halves_points (.cons (.var 3) (.cons (.var 9) .nil))) (.cons (.bif .tuple (.cons (.comp (.bin .sub (.bin .mul (.k (.int 2)) (.bin .sub (.var 3) (.k (.int 1)))) (.var 11)) (.nm 11) (.ex (.var 8)) .nil [11]) .nil)) .nil))))
  (.cons (.ret (.some (.k (.bl false))))
  .nil)
  .nil)
  .nil)))))
  (.cons (.asg (.nm 6) (.call f_Llaw_results (.cons (.var 2) (.cons (.var 3) .nil))))
  (.cons (.asg (.nm 7) (.bif .tuple (.cons (.comp (.bin .mul (.k (.int 2)) (.bif .int (.cons (.cmp .isin (.var 10) (.idx (.var 6) (.k (.int 1)))) .nil))) (.nm 10) (.ex (.var 4)) .nil [10]) .nil)))
  (.cons (.ite (.or (.not (.call f_Llaw_alike (.cons (.call f_halves_points (.cons (.var 3) (.cons (.var 7) .nil))) (.cons (.bif .tuple (.cons (.comp (.bin .mul (.k (.int 2)) (.var 11)) (.nm 11) (.ex (.call f_points (.cons (.var 6) .nil))) .nil [11]) .nil)) .nil)))) (.not (.call f_Llaw_alike (.cons (.call f_halves_points (.cons (.var 3) (.cons (.bin .mul (.tup (.cons (.k (.int 1)) .nil)) (.bif .len (.cons (.var 4) .nil))) .nil))) (.cons (.bin .mul (.tup (.cons (.bin .sub (.var 3) (.k (.int 1))) .nil)) (.var 3)) .nil)))))
  (.cons (.ret (.some (.k (.bl false))))
  .nil)
  .nil)
  .nil))))))))
  (.cons (.ret (.some (.call f_Llaw_alike (.cons (.call f_halves_points (.cons (.k (.int 1)) (.cons (.tup .nil) .nil))) (.cons (.tup (.cons (.k (.int 0)) .nil)) .nil)))))
  .nil)) }
def prog : Prog where
  fn := fun i => match i with
    | 0 => some d_is_whole
    | 1 => some d_is_between
    | 2 => some d_is_number
    | 3 => some d_is_tuple_of
    | 4 => some d_are_rising
    | 5 => some d_first_wrong
    | 6 => some d_is_win
    | 7 => some d_are_wins
    | 8 => some d_are_games_by
    | 9 => some d_players_of
    | 10 => some d_points_by
    | 11 => some d_pairs_of
    | 12 => some d_lots_of
    | 13 => some d_own_games_by
    | 14 => some d_sum_over
    | 15 => some d_check_games
    | 16 => some d_check_number
    | 17 => some d_check_numbers
    | 18 => some d_is_half
    | 19 => some d_wrong_in_halves
    | 20 => some d_points_of_halves
    | 21 => some d_has_right_sum
    | 22 => some d_short_halves_lot_by
    | 23 => some d_is_halves_list_by
    | 24 => some d_halves_points
    | 25 => some d_is_halves_list
    | 26 => some d_points
    | 27 => some d_own_games
    | 28 => some d_Llaw_pool
    | 29 => some d_Llaw_take
    | 30 => some d_Llaw_alike
    | 31 => some d_Llaw_pairs
    | 32 => some d_Llaw_results
    | 33 => some d_Llaw_order
    | 34 => some d_Llaw_sum_of
    | 35 => some d_law
    | _ => none
  glb := fun i => match i with
    | 0 => some (.int 8)
    | 1 => some (.int 0)
    | 2 => some (.int 1)
    | 3 => some (.int 99)
    | _ => none
end G51
namespace G51
open PySem PySem.Spec PyProof.Rows L2 Ev
def topS (i : Nat) : Stmt := PySem.Challenge.pw_eachagainst_k51_whole_points_by_halves.main.body.getD i (.Pass ⟨0, 0, 0, 0⟩)
def names : List Str := ([PySem.Str.ofString "is_whole", PySem.Str.ofString "is_between", PySem.Str.ofString "is_number", PySem.Str.ofString "is_tuple_of", PySem.Str.ofString "are_rising", PySem.Str.ofString "first_wrong", PySem.Str.ofString "is_win", PySem.Str.ofString "are_wins", PySem.Str.ofString "are_games_by", PySem.Str.ofString "players_of", PySem.Str.ofString "points_by", PySem.Str.ofString "pairs_of", PySem.Str.ofString "lots_of", PySem.Str.ofString "own_games_by", PySem.Str.ofString "sum_over", PySem.Str.ofString "check_games", PySem.Str.ofString "check_number", PySem.Str.ofString "check_numbers", PySem.Str.ofString "is_half", PySem.Str.ofString "wrong_in_halves", PySem.Str.ofString "points_of_halves", PySem.Str.ofString "has_right_sum", PySem.Str.ofString "short_halves_lot_by", PySem.Str.ofString "is_halves_list_by", PySem.Str.ofString "halves_points", PySem.Str.ofString "is_halves_list", PySem.Str.ofString "points", PySem.Str.ofString "own_games", PySem.Str.ofString "_law_pool", PySem.Str.ofString "_law_take", PySem.Str.ofString "_law_alike", PySem.Str.ofString "_law_pairs", PySem.Str.ofString "_law_results", PySem.Str.ofString "_law_order", PySem.Str.ofString "_law_sum_of", PySem.Str.ofString "law"] : List Str)
def pss : List (List Str) := [([PySem.Str.ofString "value"] : List Str), ([PySem.Str.ofString "value", PySem.Str.ofString "low", PySem.Str.ofString "high"] : List Str), ([PySem.Str.ofString "value"] : List Str), ([PySem.Str.ofString "value", PySem.Str.ofString "many"] : List Str), ([PySem.Str.ofString "value"] : List Str), ([PySem.Str.ofString "value", PySem.Str.ofString "low", PySem.Str.ofString "high", PySem.Str.ofString "is_one"] : List Str), ([PySem.Str.ofString "many", PySem.Str.ofString "value"] : List Str), ([PySem.Str.ofString "many", PySem.Str.ofString "value"] : List Str), ([PySem.Str.ofString "value"] : List Str), ([PySem.Str.ofString "games"] : List Str), ([PySem.Str.ofString "games"] : List Str), ([PySem.Str.ofString "many"] : List Str), ([PySem.Str.ofString "many"] : List Str), ([PySem.Str.ofString "many"] : List Str), ([PySem.Str.ofString "numbers", PySem.Str.ofString "lot"] : List Str), ([PySem.Str.ofString "value"] : List Str), ([PySem.Str.ofString "value", PySem.Str.ofString "low", PySem.Str.ofString "high"] : List Str), ([PySem.Str.ofString "value"] : List Str), ([PySem.Str.ofString "value"] : List Str), ([PySem.Str.ofString "many", PySem.Str.ofString "value"] : List Str), ([PySem.Str.ofString "many", PySem.Str.ofString "halves"] : List Str), ([PySem.Str.ofString "numbers"] : List Str), ([PySem.Str.ofString "numbers"] : List Str), ([PySem.Str.ofString "numbers"] : List Str), ([PySem.Str.ofString "many", PySem.Str.ofString "halves"] : List Str), ([PySem.Str.ofString "numbers"] : List Str), ([PySem.Str.ofString "games"] : List Str), ([PySem.Str.ofString "many"] : List Str), ([PySem.Str.ofString "script", PySem.Str.ofString "k"] : List Str), ([PySem.Str.ofString "pool", PySem.Str.ofString "many"] : List Str), ([PySem.Str.ofString "one", PySem.Str.ofString "two"] : List Str), ([PySem.Str.ofString "many"] : List Str), ([PySem.Str.ofString "pool", PySem.Str.ofString "many"] : List Str), ([PySem.Str.ofString "pool", PySem.Str.ofString "many"] : List Str), ([PySem.Str.ofString "many", PySem.Str.ofString "halves"] : List Str), ([PySem.Str.ofString "script"] : List Str)]
def NSs : List (List Str) := [([PySem.Str.ofString "value"] : List Str), ([PySem.Str.ofString "value", PySem.Str.ofString "low", PySem.Str.ofString "high"] : List Str), ([PySem.Str.ofString "value"] : List Str), ([PySem.Str.ofString "value", PySem.Str.ofString "many"] : List Str), ([PySem.Str.ofString "value", PySem.Str.ofString "index"] : List Str), ([PySem.Str.ofString "value", PySem.Str.ofString "low", PySem.Str.ofString "high", PySem.Str.ofString "is_one", PySem.Str.ofString "index", PySem.Str.ofString "each"] : List Str), ([PySem.Str.ofString "many", PySem.Str.ofString "value"] : List Str), ([PySem.Str.ofString "many", PySem.Str.ofString "value", PySem.Str.ofString "each", PySem.Str.ofString "one", PySem.Str.ofString "two"] : List Str), ([PySem.Str.ofString "value"] : List Str), ([PySem.Str.ofString "games"] : List Str), ([PySem.Str.ofString "games", PySem.Str.ofString "found", PySem.Str.ofString "one", PySem.Str.ofString "_"] : List Str), ([PySem.Str.ofString "many", PySem.Str.ofString "one", PySem.Str.ofString "two"] : List Str), ([PySem.Str.ofString "many", PySem.Str.ofString "found", PySem.Str.ofString "player", PySem.Str.ofString "lot"] : List Str), ([PySem.Str.ofString "many"] : List Str), ([PySem.Str.ofString "numbers", PySem.Str.ofString "lot", PySem.Str.ofString "player"] : List Str), ([PySem.Str.ofString "value"] : List Str), ([PySem.Str.ofString "value", PySem.Str.ofString "low", PySem.Str.ofString "high"] : List Str), ([PySem.Str.ofString "value", PySem.Str.ofString "index"] : List Str), ([PySem.Str.ofString "value"] : List Str), ([PySem.Str.ofString "many", PySem.Str.ofString "value"] : List Str), ([PySem.Str.ofString "many", PySem.Str.ofString "halves", PySem.Str.ofString "found", PySem.Str.ofString "half", PySem.Str.ofString "_", PySem.Str.ofString "one", PySem.Str.ofString "two"] : List Str), ([PySem.Str.ofString "numbers"] : List Str), ([PySem.Str.ofString "numbers", PySem.Str.ofString "lots", PySem.Str.ofString "lot"] : List Str), ([PySem.Str.ofString "numbers"] : List Str), ([PySem.Str.ofString "many", PySem.Str.ofString "halves", PySem.Str.ofString "index"] : List Str), ([PySem.Str.ofString "numbers"] : List Str), ([PySem.Str.ofString "games"] : List Str), ([PySem.Str.ofString "many"] : List Str), ([PySem.Str.ofString "script", PySem.Str.ofString "k", PySem.Str.ofString "cell", PySem.Str.ofString "size", PySem.Str.ofString "stir"] : List Str), ([PySem.Str.ofString "pool", PySem.Str.ofString "many", PySem.Str.ofString "told", PySem.Str.ofString "reach"] : List Str), ([PySem.Str.ofString "one", PySem.Str.ofString "two", PySem.Str.ofString "k"] : List Str), ([PySem.Str.ofString "many", PySem.Str.ofString "found", PySem.Str.ofString "one", PySem.Str.ofString "two"] : List Str), ([PySem.Str.ofString "pool", PySem.Str.ofString "many", PySem.Str.ofString "kind", PySem.Str.ofString "order", PySem.Str.ofString "wins", PySem.Str.ofString "one", PySem.Str.ofString "two", PySem.Str.ofString "turned", PySem.Str.ofString "a", PySem.Str.ofString "b"] : List Str), ([PySem.Str.ofString "pool", PySem.Str.ofString "many", PySem.Str.ofString "left", PySem.Str.ofString "found"] : List Str), ([PySem.Str.ofString "many", PySem.Str.ofString "halves", PySem.Str.ofString "told", PySem.Str.ofString "pair", PySem.Str.ofString "each"] : List Str), ([PySem.Str.ofString "script", PySem.Str.ofString "turn", PySem.Str.ofString "pool", PySem.Str.ofString "many", PySem.Str.ofString "pairs", PySem.Str.ofString "halves", PySem.Str.ofString "results", PySem.Str.ofString "told", PySem.Str.ofString "due", PySem.Str.ofString "back", PySem.Str.ofString "pair", PySem.Str.ofString "each"] : List Str)]
def topI : List Nat := [7, 8, 9, 10, 11, 12, 17, 18, 19, 20, 21, 22, 24, 25, 26, 28, 29, 30, 32, 33, 34, 35, 36, 37, 39, 40, 42, 45, 47, 48, 49, 50, 51, 52, 53, 54]
def tops (f : Nat) : Stmt := topS (topI.getD f 0)
def tabs : List (List (Nat × List Str × List Nat)) := [([] : List (Nat × List Str × List Nat)), ([] : List (Nat × List Str × List Nat)), ([] : List (Nat × List Str × List Nat)), ([] : List (Nat × List Str × List Nat)), ([] : List (Nat × List Str × List Nat)), ([] : List (Nat × List Str × List Nat)), ([] : List (Nat × List Str × List Nat)), ([] : List (Nat × List Str × List Nat)), ([] : List (Nat × List Str × List Nat)), ([] : List (Nat × List Str × List Nat)), ([] : List (Nat × List Str × List Nat)), ([] : List (Nat × List Str × List Nat)), ([] : List (Nat × List Str × List Nat)), ([] : List (Nat × List Str × List Nat)), ([] : List (Nat × List Str × List Nat)), ([] : List (Nat × List Str × List Nat)), ([] : List (Nat × List Str × List Nat)), ([] : List (Nat × List Str × List Nat)), ([] : List (Nat × List Str × List Nat)), ([] : List (Nat × List Str × List Nat)), ([] : List (Nat × List Str × List Nat)), ([] : List (Nat × List Str × List Nat)), ([] : List (Nat × List Str × List Nat)), ([] : List (Nat × List Str × List Nat)), ([(0, ([PySem.Str.ofString "halves", PySem.Str.ofString "many"] : List Str), [1, 0])] : List (Nat × List Str × List Nat)), ([] : List (Nat × List Str × List Nat)), ([] : List (Nat × List Str × List Nat)), ([] : List (Nat × List Str × List Nat)), ([] : List (Nat × List Str × List Nat)), ([] : List (Nat × List Str × List Nat)), ([] : List (Nat × List Str × List Nat)), ([] : List (Nat × List Str × List Nat)), ([] : List (Nat × List Str × List Nat)), ([] : List (Nat × List Str × List Nat)), ([] : List (Nat × List Str × List Nat)), ([] : List (Nat × List Str × List Nat))]
def gnames : List Str := ([PySem.Str.ofString "MOST_PLAYERS", PySem.Str.ofString "MANY", PySem.Str.ofString "WINS", PySem.Str.ofString "MOST_OWN"] : List Str)
def blts : List Str := ([PySem.Str.ofString "abs", PySem.Str.ofString "all", PySem.Str.ofString "any", PySem.Str.ofString "bool", PySem.Str.ofString "dict", PySem.Str.ofString "enumerate", PySem.Str.ofString "int", PySem.Str.ofString "isinstance", PySem.Str.ofString "len", PySem.Str.ofString "list", PySem.Str.ofString "max", PySem.Str.ofString "min", PySem.Str.ofString "range", PySem.Str.ofString "sorted", PySem.Str.ofString "str", PySem.Str.ofString "sum", PySem.Str.ofString "tuple", PySem.Str.ofString "zip"] : List Str)
def ios : List (Option Nat) := [none, none, none, none, none, none, none, none, none, none, none, none, none, none, none, none, none, none, none, none, none, none, none, none, none, none, none, none, none, some 0, none, none, some 0, some 0, none, none]
def gc : GC where
  fname f := names.getD f "?"
  ps f := pss.getD f []
  known f := decide (f < 36)
  gname g := gnames.getD g "?"
  gknown g := g == 0 || g == 1 || g == 2 || g == 3
  blt := blts
  kw f np ks perm := decide ((np, ks, perm) ∈ tabs.getD f [])
  io f := ios.getD f none
theorem bd_0 : BindOk "is_whole" (topS 7) ([PySem.Str.ofString "value"] : List Str) [] := by
  refine ⟨fun _ _ _ _ _ _ us hl => match us, hl with | [_], _ => rfl, fun _ _ _ _ _ _ np ks perm h => ?_⟩
  cases h
theorem bd_1 : BindOk "is_between" (topS 8) ([PySem.Str.ofString "value", PySem.Str.ofString "low", PySem.Str.ofString "high"] : List Str) [] := by
  refine ⟨fun _ _ _ _ _ _ us hl => match us, hl with | [_, _, _], _ => rfl, fun _ _ _ _ _ _ np ks perm h => ?_⟩
  cases h
theorem bd_2 : BindOk "is_number" (topS 9) ([PySem.Str.ofString "value"] : List Str) [] := by
  refine ⟨fun _ _ _ _ _ _ us hl => match us, hl with | [_], _ => rfl, fun _ _ _ _ _ _ np ks perm h => ?_⟩
  cases h
theorem bd_3 : BindOk "is_tuple_of" (topS 10) ([PySem.Str.ofString "value", PySem.Str.ofString "many"] : List Str) [] := by
  refine ⟨fun _ _ _ _ _ _ us hl => match us, hl with | [_, _], _ => rfl, fun _ _ _ _ _ _ np ks perm h => ?_⟩
  cases h
theorem bd_4 : BindOk "are_rising" (topS 11) ([PySem.Str.ofString "value"] : List Str) [] := by
  refine ⟨fun _ _ _ _ _ _ us hl => match us, hl with | [_], _ => rfl, fun _ _ _ _ _ _ np ks perm h => ?_⟩
  cases h
theorem bd_5 : BindOk "first_wrong" (topS 12) ([PySem.Str.ofString "value", PySem.Str.ofString "low", PySem.Str.ofString "high", PySem.Str.ofString "is_one"] : List Str) [] := by
  refine ⟨fun _ _ _ _ _ _ us hl => match us, hl with | [_, _, _, _], _ => rfl, fun _ _ _ _ _ _ np ks perm h => ?_⟩
  cases h
theorem bd_6 : BindOk "is_win" (topS 17) ([PySem.Str.ofString "many", PySem.Str.ofString "value"] : List Str) [] := by
  refine ⟨fun _ _ _ _ _ _ us hl => match us, hl with | [_, _], _ => rfl, fun _ _ _ _ _ _ np ks perm h => ?_⟩
  cases h
theorem bd_7 : BindOk "are_wins" (topS 18) ([PySem.Str.ofString "many", PySem.Str.ofString "value"] : List Str) [] := by
  refine ⟨fun _ _ _ _ _ _ us hl => match us, hl with | [_, _], _ => rfl, fun _ _ _ _ _ _ np ks perm h => ?_⟩
  cases h
theorem bd_8 : BindOk "are_games_by" (topS 19) ([PySem.Str.ofString "value"] : List Str) [] := by
  refine ⟨fun _ _ _ _ _ _ us hl => match us, hl with | [_], _ => rfl, fun _ _ _ _ _ _ np ks perm h => ?_⟩
  cases h
theorem bd_9 : BindOk "players_of" (topS 20) ([PySem.Str.ofString "games"] : List Str) [] := by
  refine ⟨fun _ _ _ _ _ _ us hl => match us, hl with | [_], _ => rfl, fun _ _ _ _ _ _ np ks perm h => ?_⟩
  cases h
theorem bd_10 : BindOk "points_by" (topS 21) ([PySem.Str.ofString "games"] : List Str) [] := by
  refine ⟨fun _ _ _ _ _ _ us hl => match us, hl with | [_], _ => rfl, fun _ _ _ _ _ _ np ks perm h => ?_⟩
  cases h
theorem bd_11 : BindOk "pairs_of" (topS 22) ([PySem.Str.ofString "many"] : List Str) [] := by
  refine ⟨fun _ _ _ _ _ _ us hl => match us, hl with | [_], _ => rfl, fun _ _ _ _ _ _ np ks perm h => ?_⟩
  cases h
theorem bd_12 : BindOk "lots_of" (topS 24) ([PySem.Str.ofString "many"] : List Str) [] := by
  refine ⟨fun _ _ _ _ _ _ us hl => match us, hl with | [_], _ => rfl, fun _ _ _ _ _ _ np ks perm h => ?_⟩
  cases h
theorem bd_13 : BindOk "own_games_by" (topS 25) ([PySem.Str.ofString "many"] : List Str) [] := by
  refine ⟨fun _ _ _ _ _ _ us hl => match us, hl with | [_], _ => rfl, fun _ _ _ _ _ _ np ks perm h => ?_⟩
  cases h
theorem bd_14 : BindOk "sum_over" (topS 26) ([PySem.Str.ofString "numbers", PySem.Str.ofString "lot"] : List Str) [] := by
  refine ⟨fun _ _ _ _ _ _ us hl => match us, hl with | [_, _], _ => rfl, fun _ _ _ _ _ _ np ks perm h => ?_⟩
  cases h
theorem bd_15 : BindOk "check_games" (topS 28) ([PySem.Str.ofString "value"] : List Str) [] := by
  refine ⟨fun _ _ _ _ _ _ us hl => match us, hl with | [_], _ => rfl, fun _ _ _ _ _ _ np ks perm h => ?_⟩
  cases h
theorem bd_16 : BindOk "check_number" (topS 29) ([PySem.Str.ofString "value", PySem.Str.ofString "low", PySem.Str.ofString "high"] : List Str) [] := by
  refine ⟨fun _ _ _ _ _ _ us hl => match us, hl with | [_, _, _], _ => rfl, fun _ _ _ _ _ _ np ks perm h => ?_⟩
  cases h
theorem bd_17 : BindOk "check_numbers" (topS 30) ([PySem.Str.ofString "value"] : List Str) [] := by
  refine ⟨fun _ _ _ _ _ _ us hl => match us, hl with | [_], _ => rfl, fun _ _ _ _ _ _ np ks perm h => ?_⟩
  cases h
theorem bd_18 : BindOk "is_half" (topS 32) ([PySem.Str.ofString "value"] : List Str) [] := by
  refine ⟨fun _ _ _ _ _ _ us hl => match us, hl with | [_], _ => rfl, fun _ _ _ _ _ _ np ks perm h => ?_⟩
  cases h
theorem bd_19 : BindOk "wrong_in_halves" (topS 33) ([PySem.Str.ofString "many", PySem.Str.ofString "value"] : List Str) [] := by
  refine ⟨fun _ _ _ _ _ _ us hl => match us, hl with | [_, _], _ => rfl, fun _ _ _ _ _ _ np ks perm h => ?_⟩
  cases h
theorem bd_20 : BindOk "points_of_halves" (topS 34) ([PySem.Str.ofString "many", PySem.Str.ofString "halves"] : List Str) [] := by
  refine ⟨fun _ _ _ _ _ _ us hl => match us, hl with | [_, _], _ => rfl, fun _ _ _ _ _ _ np ks perm h => ?_⟩
  cases h
theorem bd_21 : BindOk "has_right_sum" (topS 35) ([PySem.Str.ofString "numbers"] : List Str) [] := by
  refine ⟨fun _ _ _ _ _ _ us hl => match us, hl with | [_], _ => rfl, fun _ _ _ _ _ _ np ks perm h => ?_⟩
  cases h
theorem bd_22 : BindOk "short_halves_lot_by" (topS 36) ([PySem.Str.ofString "numbers"] : List Str) [] := by
  refine ⟨fun _ _ _ _ _ _ us hl => match us, hl with | [_], _ => rfl, fun _ _ _ _ _ _ np ks perm h => ?_⟩
  cases h
theorem bd_23 : BindOk "is_halves_list_by" (topS 37) ([PySem.Str.ofString "numbers"] : List Str) [] := by
  refine ⟨fun _ _ _ _ _ _ us hl => match us, hl with | [_], _ => rfl, fun _ _ _ _ _ _ np ks perm h => ?_⟩
  cases h
theorem bd_24 : BindOk "halves_points" (topS 39) ([PySem.Str.ofString "many", PySem.Str.ofString "halves"] : List Str) [(0, ([PySem.Str.ofString "halves", PySem.Str.ofString "many"] : List Str), [1, 0])] := by
  refine ⟨fun _ _ _ _ _ _ us hl => match us, hl with | [_, _], _ => rfl, fun _ _ _ _ _ _ np ks perm h => ?_⟩
  rcases List.mem_cons.mp h with e | h
  · cases e
    exact fun us ws h1 h2 => match us, ws, h1, h2 with | [], [_, _], _, _ => rfl
  cases h
theorem bd_25 : BindOk "is_halves_list" (topS 40) ([PySem.Str.ofString "numbers"] : List Str) [] := by
  refine ⟨fun _ _ _ _ _ _ us hl => match us, hl with | [_], _ => rfl, fun _ _ _ _ _ _ np ks perm h => ?_⟩
  cases h
theorem bd_26 : BindOk "points" (topS 42) ([PySem.Str.ofString "games"] : List Str) [] := by
  refine ⟨fun _ _ _ _ _ _ us hl => match us, hl with | [_], _ => rfl, fun _ _ _ _ _ _ np ks perm h => ?_⟩
  cases h
theorem bd_27 : BindOk "own_games" (topS 45) ([PySem.Str.ofString "many"] : List Str) [] := by
  refine ⟨fun _ _ _ _ _ _ us hl => match us, hl with | [_], _ => rfl, fun _ _ _ _ _ _ np ks perm h => ?_⟩
  cases h
theorem bd_28 : BindOk "_law_pool" (topS 47) ([PySem.Str.ofString "script", PySem.Str.ofString "k"] : List Str) [] := by
  refine ⟨fun _ _ _ _ _ _ us hl => match us, hl with | [_, _], _ => rfl, fun _ _ _ _ _ _ np ks perm h => ?_⟩
  cases h
theorem bd_29 : BindOk "_law_take" (topS 48) ([PySem.Str.ofString "pool", PySem.Str.ofString "many"] : List Str) [] := by
  refine ⟨fun _ _ _ _ _ _ us hl => match us, hl with | [_, _], _ => rfl, fun _ _ _ _ _ _ np ks perm h => ?_⟩
  cases h
theorem bd_30 : BindOk "_law_alike" (topS 49) ([PySem.Str.ofString "one", PySem.Str.ofString "two"] : List Str) [] := by
  refine ⟨fun _ _ _ _ _ _ us hl => match us, hl with | [_, _], _ => rfl, fun _ _ _ _ _ _ np ks perm h => ?_⟩
  cases h
theorem bd_31 : BindOk "_law_pairs" (topS 50) ([PySem.Str.ofString "many"] : List Str) [] := by
  refine ⟨fun _ _ _ _ _ _ us hl => match us, hl with | [_], _ => rfl, fun _ _ _ _ _ _ np ks perm h => ?_⟩
  cases h
theorem bd_32 : BindOk "_law_results" (topS 51) ([PySem.Str.ofString "pool", PySem.Str.ofString "many"] : List Str) [] := by
  refine ⟨fun _ _ _ _ _ _ us hl => match us, hl with | [_, _], _ => rfl, fun _ _ _ _ _ _ np ks perm h => ?_⟩
  cases h
theorem bd_33 : BindOk "_law_order" (topS 52) ([PySem.Str.ofString "pool", PySem.Str.ofString "many"] : List Str) [] := by
  refine ⟨fun _ _ _ _ _ _ us hl => match us, hl with | [_, _], _ => rfl, fun _ _ _ _ _ _ np ks perm h => ?_⟩
  cases h
theorem bd_34 : BindOk "_law_sum_of" (topS 53) ([PySem.Str.ofString "many", PySem.Str.ofString "halves"] : List Str) [] := by
  refine ⟨fun _ _ _ _ _ _ us hl => match us, hl with | [_, _], _ => rfl, fun _ _ _ _ _ _ np ks perm h => ?_⟩
  cases h
theorem bd_35 : BindOk "law" (topS 54) ([PySem.Str.ofString "script"] : List Str) [] := by
  refine ⟨fun _ _ _ _ _ _ us hl => match us, hl with | [_], _ => rfl, fun _ _ _ _ _ _ np ks perm h => ?_⟩
  cases h
theorem ck_0 : ckDef gc prog 0 ([PySem.Str.ofString "value"] : List Str) (topS 7) = true := by decide +kernel
theorem ck_1 : ckDef gc prog 1 ([PySem.Str.ofString "value", PySem.Str.ofString "low", PySem.Str.ofString "high"] : List Str) (topS 8) = true := by decide +kernel
theorem ck_2 : ckDef gc prog 2 ([PySem.Str.ofString "value"] : List Str) (topS 9) = true := by decide +kernel
theorem ck_3 : ckDef gc prog 3 ([PySem.Str.ofString "value", PySem.Str.ofString "many"] : List Str) (topS 10) = true := by decide +kernel
theorem ck_4 : ckDef gc prog 4 ([PySem.Str.ofString "value", PySem.Str.ofString "index"] : List Str) (topS 11) = true := by decide +kernel
theorem ck_5 : ckDef gc prog 5 ([PySem.Str.ofString "value", PySem.Str.ofString "low", PySem.Str.ofString "high", PySem.Str.ofString "is_one", PySem.Str.ofString "index", PySem.Str.ofString "each"] : List Str) (topS 12) = true := by decide +kernel
theorem ck_6 : ckDef gc prog 6 ([PySem.Str.ofString "many", PySem.Str.ofString "value"] : List Str) (topS 17) = true := by decide +kernel
theorem ck_7 : ckDef gc prog 7 ([PySem.Str.ofString "many", PySem.Str.ofString "value", PySem.Str.ofString "each", PySem.Str.ofString "one", PySem.Str.ofString "two"] : List Str) (topS 18) = true := by decide +kernel
theorem ck_8 : ckDef gc prog 8 ([PySem.Str.ofString "value"] : List Str) (topS 19) = true := by decide +kernel
theorem ck_9 : ckDef gc prog 9 ([PySem.Str.ofString "games"] : List Str) (topS 20) = true := by decide +kernel
theorem ck_10 : ckDef gc prog 10 ([PySem.Str.ofString "games", PySem.Str.ofString "found", PySem.Str.ofString "one", PySem.Str.ofString "_"] : List Str) (topS 21) = true := by decide +kernel
theorem ck_11 : ckDef gc prog 11 ([PySem.Str.ofString "many", PySem.Str.ofString "one", PySem.Str.ofString "two"] : List Str) (topS 22) = true := by decide +kernel
theorem ck_12 : ckDef gc prog 12 ([PySem.Str.ofString "many", PySem.Str.ofString "found", PySem.Str.ofString "player", PySem.Str.ofString "lot"] : List Str) (topS 24) = true := by decide +kernel
theorem ck_13 : ckDef gc prog 13 ([PySem.Str.ofString "many"] : List Str) (topS 25) = true := by decide +kernel
theorem ck_14 : ckDef gc prog 14 ([PySem.Str.ofString "numbers", PySem.Str.ofString "lot", PySem.Str.ofString "player"] : List Str) (topS 26) = true := by decide +kernel
theorem ck_15 : ckDef gc prog 15 ([PySem.Str.ofString "value"] : List Str) (topS 28) = true := by decide +kernel
theorem ck_16 : ckDef gc prog 16 ([PySem.Str.ofString "value", PySem.Str.ofString "low", PySem.Str.ofString "high"] : List Str) (topS 29) = true := by decide +kernel
theorem ck_17 : ckDef gc prog 17 ([PySem.Str.ofString "value", PySem.Str.ofString "index"] : List Str) (topS 30) = true := by decide +kernel
theorem ck_18 : ckDef gc prog 18 ([PySem.Str.ofString "value"] : List Str) (topS 32) = true := by decide +kernel
theorem ck_19 : ckDef gc prog 19 ([PySem.Str.ofString "many", PySem.Str.ofString "value"] : List Str) (topS 33) = true := by decide +kernel
theorem ck_20 : ckDef gc prog 20 ([PySem.Str.ofString "many", PySem.Str.ofString "halves", PySem.Str.ofString "found", PySem.Str.ofString "half", PySem.Str.ofString "_", PySem.Str.ofString "one", PySem.Str.ofString "two"] : List Str) (topS 34) = true := by decide +kernel
theorem ck_21 : ckDef gc prog 21 ([PySem.Str.ofString "numbers"] : List Str) (topS 35) = true := by decide +kernel
theorem ck_22 : ckDef gc prog 22 ([PySem.Str.ofString "numbers", PySem.Str.ofString "lots", PySem.Str.ofString "lot"] : List Str) (topS 36) = true := by decide +kernel
theorem ck_23 : ckDef gc prog 23 ([PySem.Str.ofString "numbers"] : List Str) (topS 37) = true := by decide +kernel
theorem ck_24 : ckDef gc prog 24 ([PySem.Str.ofString "many", PySem.Str.ofString "halves", PySem.Str.ofString "index"] : List Str) (topS 39) = true := by decide +kernel
theorem ck_25 : ckDef gc prog 25 ([PySem.Str.ofString "numbers"] : List Str) (topS 40) = true := by decide +kernel
theorem ck_26 : ckDef gc prog 26 ([PySem.Str.ofString "games"] : List Str) (topS 42) = true := by decide +kernel
theorem ck_27 : ckDef gc prog 27 ([PySem.Str.ofString "many"] : List Str) (topS 45) = true := by decide +kernel
theorem ck_28 : ckDef gc prog 28 ([PySem.Str.ofString "script", PySem.Str.ofString "k", PySem.Str.ofString "cell", PySem.Str.ofString "size", PySem.Str.ofString "stir"] : List Str) (topS 47) = true := by decide +kernel
theorem ck_29 : ckDef gc prog 29 ([PySem.Str.ofString "pool", PySem.Str.ofString "many", PySem.Str.ofString "told", PySem.Str.ofString "reach"] : List Str) (topS 48) = true := by decide +kernel
theorem ck_30 : ckDef gc prog 30 ([PySem.Str.ofString "one", PySem.Str.ofString "two", PySem.Str.ofString "k"] : List Str) (topS 49) = true := by decide +kernel
theorem ck_31 : ckDef gc prog 31 ([PySem.Str.ofString "many", PySem.Str.ofString "found", PySem.Str.ofString "one", PySem.Str.ofString "two"] : List Str) (topS 50) = true := by decide +kernel
theorem ck_32 : ckDef gc prog 32 ([PySem.Str.ofString "pool", PySem.Str.ofString "many", PySem.Str.ofString "kind", PySem.Str.ofString "order", PySem.Str.ofString "wins", PySem.Str.ofString "one", PySem.Str.ofString "two", PySem.Str.ofString "turned", PySem.Str.ofString "a", PySem.Str.ofString "b"] : List Str) (topS 51) = true := by decide +kernel
theorem ck_33 : ckDef gc prog 33 ([PySem.Str.ofString "pool", PySem.Str.ofString "many", PySem.Str.ofString "left", PySem.Str.ofString "found"] : List Str) (topS 52) = true := by decide +kernel
theorem ck_34 : ckDef gc prog 34 ([PySem.Str.ofString "many", PySem.Str.ofString "halves", PySem.Str.ofString "told", PySem.Str.ofString "pair", PySem.Str.ofString "each"] : List Str) (topS 53) = true := by decide +kernel
theorem ck_35 : ckDef gc prog 35 ([PySem.Str.ofString "script", PySem.Str.ofString "turn", PySem.Str.ofString "pool", PySem.Str.ofString "many", PySem.Str.ofString "pairs", PySem.Str.ofString "halves", PySem.Str.ofString "results", PySem.Str.ofString "told", PySem.Str.ofString "due", PySem.Str.ofString "back", PySem.Str.ofString "pair", PySem.Str.ofString "each"] : List Str) (topS 54) = true := by decide +kernel
section
variable {w : World} {K : PySem.W.Frag} {h : Heap} {mg : Str → Option Value} {fa : Addr}
def addrs (l : List Addr) (f : Nat) : Addr := l.getD f 0
theorem all_mk (X : K.In h) (G0 : h.Ns mainGlobals mg) (hfa : mg "law" = some (.ref fa)) {f0 f1 f2 f3 f4 f5 f6 f7 f8 f9 f10 f11 f12 f13 f14 f15 f16 f17 f18 f19 f20 f21 f22 f23 f24 f25 f26 f27 f28 f29 f30 f31 f32 f33 f34 f35 : Addr} {t0 t1 t2 t3 : Tok}
    (D0 : DefIn K "is_whole" (topS 7) f0)
    (D1 : DefIn K "is_between" (topS 8) f1)
    (D2 : DefIn K "is_number" (topS 9) f2)
    (D3 : DefIn K "is_tuple_of" (topS 10) f3)
    (D4 : DefIn K "are_rising" (topS 11) f4)
    (D5 : DefIn K "first_wrong" (topS 12) f5)
    (D6 : DefIn K "is_win" (topS 17) f6)
    (D7 : DefIn K "are_wins" (topS 18) f7)
    (D8 : DefIn K "are_games_by" (topS 19) f8)
    (D9 : DefIn K "players_of" (topS 20) f9)
    (D10 : DefIn K "points_by" (topS 21) f10)
    (D11 : DefIn K "pairs_of" (topS 22) f11)
    (D12 : DefIn K "lots_of" (topS 24) f12)
    (D13 : DefIn K "own_games_by" (topS 25) f13)
    (D14 : DefIn K "sum_over" (topS 26) f14)
    (D15 : DefIn K "check_games" (topS 28) f15)
    (D16 : DefIn K "check_number" (topS 29) f16)
    (D17 : DefIn K "check_numbers" (topS 30) f17)
    (D18 : DefIn K "is_half" (topS 32) f18)
    (D19 : DefIn K "wrong_in_halves" (topS 33) f19)
    (D20 : DefIn K "points_of_halves" (topS 34) f20)
    (D21 : DefIn K "has_right_sum" (topS 35) f21)
    (D22 : DefIn K "short_halves_lot_by" (topS 36) f22)
    (D23 : DefIn K "is_halves_list_by" (topS 37) f23)
    (D24 : DefIn K "halves_points" (topS 39) f24)
    (D25 : DefIn K "is_halves_list" (topS 40) f25)
    (D26 : DefIn K "points" (topS 42) f26)
    (D27 : DefIn K "own_games" (topS 45) f27)
    (D28 : DefIn K "_law_pool" (topS 47) f28)
    (D29 : DefIn K "_law_take" (topS 48) f29)
    (D30 : DefIn K "_law_alike" (topS 49) f30)
    (D31 : DefIn K "_law_pairs" (topS 50) f31)
    (D32 : DefIn K "_law_results" (topS 51) f32)
    (D33 : DefIn K "_law_order" (topS 52) f33)
    (D34 : DefIn K "_law_sum_of" (topS 53) f34)
    (D35 : DefIn K "law" (topS 54) f35)
    (c0 : PySem.W.nsIn K mainGlobals "MOST_PLAYERS" = some (some (.int 8 t0)))
    (c1 : PySem.W.nsIn K mainGlobals "MANY" = some (some (.int 0 t1)))
    (c2 : PySem.W.nsIn K mainGlobals "WINS" = some (some (.int 1 t2)))
    (c3 : PySem.W.nsIn K mainGlobals "MOST_OWN" = some (some (.int 99 t3)))
    (z0 : PySem.W.nsIn K mainGlobals "abs" = some none)
    (z1 : PySem.W.nsIn K mainGlobals "all" = some none)
    (z2 : PySem.W.nsIn K mainGlobals "any" = some none)
    (z3 : PySem.W.nsIn K mainGlobals "bool" = some none)
    (z4 : PySem.W.nsIn K mainGlobals "dict" = some none)
    (z5 : PySem.W.nsIn K mainGlobals "enumerate" = some none)
    (z6 : PySem.W.nsIn K mainGlobals "int" = some none)
    (z7 : PySem.W.nsIn K mainGlobals "isinstance" = some none)
    (z8 : PySem.W.nsIn K mainGlobals "len" = some none)
    (z9 : PySem.W.nsIn K mainGlobals "list" = some none)
    (z10 : PySem.W.nsIn K mainGlobals "max" = some none)
    (z11 : PySem.W.nsIn K mainGlobals "min" = some none)
    (z12 : PySem.W.nsIn K mainGlobals "range" = some none)
    (z13 : PySem.W.nsIn K mainGlobals "sorted" = some none)
    (z14 : PySem.W.nsIn K mainGlobals "str" = some none)
    (z15 : PySem.W.nsIn K mainGlobals "sum" = some none)
    (z16 : PySem.W.nsIn K mainGlobals "tuple" = some none)
    (z17 : PySem.W.nsIn K mainGlobals "zip" = some none)
    (hrun : ∀ ns : List Int, ns.length ≤ 63 → ∃ fr, run prog 1000 (59 + 1) 35 [.scr (ns.map T.int)] = .ok (.bl true) fr none) :
    ∃ fd : FuncData, (∀ (s : Shared) (v : Value), BindsTo s fd ⟨[v], []⟩ [("script", v)]) ∧ ∀ base : Heap, K.In base → base.Ns mainGlobals mg → FnOk PySem.Challenge.rw_eachagainst_k51_whole_points_by_halves.prog w K mg base CX0 60 fa fd ["script"] (spLaw K) := by
  have hD : ∀ f, gc.known f = true → DefIn K (gc.fname f) (tops f) (addrs [f0, f1, f2, f3, f4, f5, f6, f7, f8, f9, f10, f11, f12, f13, f14, f15, f16, f17, f18, f19, f20, f21, f22, f23, f24, f25, f26, f27, f28, f29, f30, f31, f32, f33, f34, f35] f) ∧ BindOk (gc.fname f) (tops f) (gc.ps f) (tabs.getD f []) ∧ ckDef gc prog f (NSs.getD f []) (tops f) = true := fun f hf => match f, hf with
    | 0, _ => ⟨D0, bd_0, ck_0⟩
    | 1, _ => ⟨D1, bd_1, ck_1⟩
    | 2, _ => ⟨D2, bd_2, ck_2⟩
    | 3, _ => ⟨D3, bd_3, ck_3⟩
    | 4, _ => ⟨D4, bd_4, ck_4⟩
    | 5, _ => ⟨D5, bd_5, ck_5⟩
    | 6, _ => ⟨D6, bd_6, ck_6⟩
    | 7, _ => ⟨D7, bd_7, ck_7⟩
    | 8, _ => ⟨D8, bd_8, ck_8⟩
    | 9, _ => ⟨D9, bd_9, ck_9⟩
    | 10, _ => ⟨D10, bd_10, ck_10⟩
    | 11, _ => ⟨D11, bd_11, ck_11⟩
    | 12, _ => ⟨D12, bd_12, ck_12⟩
    | 13, _ => ⟨D13, bd_13, ck_13⟩
    | 14, _ => ⟨D14, bd_14, ck_14⟩
    | 15, _ => ⟨D15, bd_15, ck_15⟩
    | 16, _ => ⟨D16, bd_16, ck_16⟩
    | 17, _ => ⟨D17, bd_17, ck_17⟩
    | 18, _ => ⟨D18, bd_18, ck_18⟩
    | 19, _ => ⟨D19, bd_19, ck_19⟩
    | 20, _ => ⟨D20, bd_20, ck_20⟩
    | 21, _ => ⟨D21, bd_21, ck_21⟩
    | 22, _ => ⟨D22, bd_22, ck_22⟩
    | 23, _ => ⟨D23, bd_23, ck_23⟩
    | 24, _ => ⟨D24, bd_24, ck_24⟩
    | 25, _ => ⟨D25, bd_25, ck_25⟩
    | 26, _ => ⟨D26, bd_26, ck_26⟩
    | 27, _ => ⟨D27, bd_27, ck_27⟩
    | 28, _ => ⟨D28, bd_28, ck_28⟩
    | 29, _ => ⟨D29, bd_29, ck_29⟩
    | 30, _ => ⟨D30, bd_30, ck_30⟩
    | 31, _ => ⟨D31, bd_31, ck_31⟩
    | 32, _ => ⟨D32, bd_32, ck_32⟩
    | 33, _ => ⟨D33, bd_33, ck_33⟩
    | 34, _ => ⟨D34, bd_34, ck_34⟩
    | 35, _ => ⟨D35, bd_35, ck_35⟩
    | n + 36, hf => absurd (of_decide_eq_true (show decide (n + 36 < 36) = true from hf)) (by omega)
  have hz : ∀ x, gc.blt.contains x = true → mg x = none := fun x hx => by
    have hx : x ∈ blts := List.contains_iff_mem.mp hx
    unfold blts at hx
    rcases List.mem_cons.mp hx with rfl | hx
    · exact PySem.W.mg_none_of X G0 z0
    rcases List.mem_cons.mp hx with rfl | hx
    · exact PySem.W.mg_none_of X G0 z1
    rcases List.mem_cons.mp hx with rfl | hx
    · exact PySem.W.mg_none_of X G0 z2
    rcases List.mem_cons.mp hx with rfl | hx
    · exact PySem.W.mg_none_of X G0 z3
    rcases List.mem_cons.mp hx with rfl | hx
    · exact PySem.W.mg_none_of X G0 z4
    rcases List.mem_cons.mp hx with rfl | hx
    · exact PySem.W.mg_none_of X G0 z5
    rcases List.mem_cons.mp hx with rfl | hx
    · exact PySem.W.mg_none_of X G0 z6
    rcases List.mem_cons.mp hx with rfl | hx
    · exact PySem.W.mg_none_of X G0 z7
    rcases List.mem_cons.mp hx with rfl | hx
    · exact PySem.W.mg_none_of X G0 z8
    rcases List.mem_cons.mp hx with rfl | hx
    · exact PySem.W.mg_none_of X G0 z9
    rcases List.mem_cons.mp hx with rfl | hx
    · exact PySem.W.mg_none_of X G0 z10
    rcases List.mem_cons.mp hx with rfl | hx
    · exact PySem.W.mg_none_of X G0 z11
    rcases List.mem_cons.mp hx with rfl | hx
    · exact PySem.W.mg_none_of X G0 z12
    rcases List.mem_cons.mp hx with rfl | hx
    · exact PySem.W.mg_none_of X G0 z13
    rcases List.mem_cons.mp hx with rfl | hx
    · exact PySem.W.mg_none_of X G0 z14
    rcases List.mem_cons.mp hx with rfl | hx
    · exact PySem.W.mg_none_of X G0 z15
    rcases List.mem_cons.mp hx with rfl | hx
    · exact PySem.W.mg_none_of X G0 z16
    rcases List.mem_cons.mp hx with rfl | hx
    · exact PySem.W.mg_none_of X G0 z17
    cases hx
  have hc : ∀ g, gc.gknown g = true → ∃ t u v, prog.glb g = some t ∧ mg (gc.gname g) = some u ∧ RelV v u ∧ ∀ Hm, Rp (addrs [f0, f1, f2, f3, f4, f5, f6, f7, f8, f9, f10, f11, f12, f13, f14, f15, f16, f17, f18, f19, f20, f21, f22, f23, f24, f25, f26, f27, f28, f29, f30, f31, f32, f33, f34, f35]) K Hm t v := fun g hg => by
    have hg : (g == 0 || g == 1 || g == 2 || g == 3) = true := hg
    simp only [Bool.or_eq_true, beq_iff_eq] at hg
    rcases hg with ((rfl | rfl) | rfl) | rfl
    · exact ⟨.int 8, _, .int 8, rfl, PySem.W.mg_of X G0 c0, ⟨_, rfl⟩, fun _ => by simp [Rp]⟩
    · exact ⟨.int 0, _, .int 0, rfl, PySem.W.mg_of X G0 c1, ⟨_, rfl⟩, fun _ => by simp [Rp]⟩
    · exact ⟨.int 1, _, .int 1, rfl, PySem.W.mg_of X G0 c2, ⟨_, rfl⟩, fun _ => by simp [Rp]⟩
    · exact ⟨.int 99, _, .int 99, rfl, PySem.W.mg_of X G0 c3, ⟨_, rfl⟩, fun _ => by simp [Rp]⟩
  have io : ∀ f, gc.io f = ioOf prog f := fun f => match f with
    | 0 => rfl
    | 1 => rfl
    | 2 => rfl
    | 3 => rfl
    | 4 => rfl
    | 5 => rfl
    | 6 => rfl
    | 7 => rfl
    | 8 => rfl
    | 9 => rfl
    | 10 => rfl
    | 11 => rfl
    | 12 => rfl
    | 13 => rfl
    | 14 => rfl
    | 15 => rfl
    | 16 => rfl
    | 17 => rfl
    | 18 => rfl
    | 19 => rfl
    | 20 => rfl
    | 21 => rfl
    | 22 => rfl
    | 23 => rfl
    | 24 => rfl
    | 25 => rfl
    | 26 => rfl
    | 27 => rfl
    | 28 => rfl
    | 29 => rfl
    | 30 => rfl
    | 31 => rfl
    | 32 => rfl
    | 33 => rfl
    | 34 => rfl
    | 35 => rfl
    | n + 36 => rfl
  obtain ⟨oc, od, kV, doc, pm, an, cdv, ct, osl, l, c⟩ := D35.ex
  have e := hfa.symm.trans (PySem.W.mg_of X G0 D35.ns)
  have e3 : fa = f35 := Value.ref.inj (Option.some.inj e)
  rw [e3]
  have Fn := fun_mk l c D35.kp
  refine ⟨_, fun s v => .of_eq (bd_35.pos kV doc pm an cdv ct [v] rfl), fun base _ _ => ?_⟩
  have A := law_fn (prog := PySem.Challenge.rw_eachagainst_k51_whole_points_by_halves.prog) (w := w) (mg := mg) (base := base) (F := addrs [f0, f1, f2, f3, f4, f5, f6, f7, f8, f9, f10, f11, f12, f13, f14, f15, f16, f17, f18, f19, f20, f21, f22, f23, f24, f25, f26, f27, f28, f29, f30, f31, f32, f33, f34, f35]) (P := prog) (wh := 1000) (G := gc) (tab := fun f => tabs.getD f []) (tops := tops) (NS := fun f => NSs.getD f []) (fun f np ks perm h => of_decide_eq_true h) (fun x v => PySem.W.mg_of X G0) hD hz hc io 59 35 rfl Fn
  exact A.imp fun vs H Q E ⟨a, ns, e, hS, hl, q⟩ => by
    subst e
    obtain ⟨fr, hr⟩ := hrun ns hl
    exact law_sp rfl (Nat.le_trans hl (by decide)) hS hr q
end
end G51

set_option Elab.async false
set_option linter.all false
set_option maxRecDepth 100000
set_option autoImplicit false
/-! what is known of the names; a walk through the text by rules -/
namespace Ev
inductive R (α : Type) where
  | ok (a : α) | ex (c : Nat) (t : T) | bad
namespace R
def bind {α β : Type} (r : R α) (f : α → R β) : R β := match r with
  | .ok a => f a
  | .ex c t => .ex c t
  | .bad => .bad
def of {α : Type} : Option α → R α
  | some a => .ok a
  | none => .bad
def need (b : Bool) : R Unit := if b then .ok () else .bad
@[simp] theorem bind_ok {α β : Type} (a : α) (f : α → R β) : (R.ok a).bind f = f a := rfl
@[simp] theorem bind_ex {α β : Type} (c : Nat) (t : T) (f : α → R β) : (R.ex c t).bind f = .ex c t := rfl
@[simp] theorem bind_bad {α β : Type} (f : α → R β) : (R.bad : R α).bind f = .bad := rfl
theorem bindE {α β : Type} {r : R α} {k : α → R β} {b : β} {P : Prop} (h : r.bind k = .ok b) (f : ∀ x, r = .ok x → k x = .ok b → P) : P := by
  cases r with
  | ok a => exact f a rfl h
  | ex c t => cases h
  | bad => cases h
@[elab_as_elim] theorem okE {α : Type} {a b : α} {P : α → Prop} (h : R.ok a = .ok b) (p : P a) : P b := by cases h; exact p
theorem ofE {α : Type} {o : Option α} {a : α} (h : of o = .ok a) : o = some a := by
  cases o with
  | none => cases h
  | some b => cases h; rfl
theorem needE {b : Bool} {u : Unit} (h : need b = .ok u) : b = true := by
  cases b with
  | true => rfl
  | false => cases h
end R

inductive KV where
  | un | sh (t : T) | ow (t : T) | io (t : T)
def KV.Ok : KV → Sl → Prop
  | .un, s => isIo s = false
  | .sh t, s => s = .sh t ∨ s = .ow t
  | .ow t, s => s = .ow t
  | .io t, s => s = .io t
def KV.notIo : KV → Bool
  | .io _ => false
  | _ => true
def KV.toSl : KV → Sl
  | .un => .un
  | .sh t => .sh t
  | .ow t => .ow t
  | .io t => .io t
theorem KV.toSl_ok (k : KV) : k.Ok k.toSl := by cases k <;> simp [Ok, toSl, isIo]
def Kat : List KV → Nat → KV
  | [], _ => .un
  | k :: _, 0 => k
  | _ :: ks, n + 1 => Kat ks n
def Kput : List KV → Nat → KV → List KV
  | [], _, _ => []
  | _ :: ks, 0, k => k :: ks
  | x :: ks, n + 1, k => x :: Kput ks n k
def Is : List KV → Env → Prop
  | [], env => env = []
  | k :: ks, env => ∃ s e, env = s :: e ∧ k.Ok s ∧ Is ks e
theorem Is.at : ∀ {st : List KV} {env : Env} (i : Nat), Is st env → (Kat st i).Ok (env.getD i .un)
  | [], env, i, h => by cases h; rfl
  | k :: ks, env, 0, h => by obtain ⟨s, e, rfl, h, _⟩ := h; exact h
  | k :: ks, env, i + 1, h => by obtain ⟨s, e, rfl, _, h⟩ := h; exact Is.at i h
theorem Is.put : ∀ {st : List KV} {env : Env} (i : Nat) {k : KV} {s : Sl}, Is st env → k.Ok s → Is (Kput st i k) (env.set i s)
  | [], env, i, _, _, h, _ => by cases h; rfl
  | k :: ks, env, 0, _, _, h, o => by obtain ⟨s, e, rfl, _, h⟩ := h; exact ⟨_, _, rfl, o, h⟩
  | k :: ks, env, i + 1, _, _, h, o => by obtain ⟨s, e, rfl, h1, h⟩ := h; exact ⟨_, _, rfl, h1, Is.put i h o⟩
theorem Is.toSl : ∀ (st : List KV), Is st (st.map KV.toSl)
  | [] => rfl
  | k :: ks => ⟨_, _, rfl, k.toSl_ok, Is.toSl ks⟩
def KLe (k k' : KV) : Prop := ∀ s, k.Ok s → k'.Ok s
theorem kr {k : KV} : KLe k k := fun _ h => h
theorem kos {t : T} : KLe (.ow t) (.sh t) := fun _ h => .inr h
theorem ksu {t : T} : KLe (.sh t) .un := fun _ h => by rcases h with rfl | rfl <;> rfl
theorem kou {t : T} : KLe (.ow t) .un := fun _ h => by cases h; rfl
def Wkn (st st' : List KV) : Prop := ∀ env, Is st env → Is st' env
theorem wr {st : List KV} : Wkn st st := fun _ h => h
theorem w0 : Wkn [] [] := fun _ h => h
theorem wc {k k' : KV} {st st' : List KV} (a : KLe k k') (b : Wkn st st') : Wkn (k :: st) (k' :: st') := fun env h => by
  obtain ⟨s, e, rfl, h1, h2⟩ := h
  exact ⟨_, _, rfl, a _ h1, b _ h2⟩
theorem wkn_trans {a b c : List KV} (h : Wkn a b) (h' : Wkn b c) : Wkn a c := fun e i => h' e (h e i)
def KwipeK (st : List KV) : List Nat → List KV
  | [] => st
  | v :: vs => Kput (KwipeK st vs) v .un
theorem Is.wipe {st : List KV} {env : Env} (h : Is st env) : ∀ own : List Nat, Is (KwipeK st own) (wipe env own)
  | [] => h
  | v :: vs => Is.put v (Is.wipe h vs) rfl
def Kback (st0 st : List KV) : List Nat → List KV
  | [] => st
  | v :: vs => Kput (Kback st0 st vs) v (Kat st0 v)
theorem Is.unwipe {st0 st : List KV} {env0 env : Env} (h0 : Is st0 env0) (h : Is st env) : ∀ own : List Nat, Is (Kback st0 st own) (unwipe env0 env own)
  | [] => h
  | v :: vs => Is.put v (Is.unwipe h0 h vs) (h0.at v)
def ownOk (st : List KV) (own : List Nat) : Bool := own.all fun i => (Kat st i).notIo
theorem KV.Ok.noIo {k : KV} {s : Sl} (h : k.Ok s) (n : k.notIo = true) : isIo s = false := by
  cases k with
  | un => exact h
  | sh t => rcases h with rfl | rfl <;> rfl
  | ow t => cases h; rfl
  | io t => cases n
theorem noIo_of {st : List KV} {env : Env} (h : Is st env) : ∀ {own : List Nat}, ownOk st own = true → noIo env own = true
  | [], _ => rfl
  | v :: vs, o => by
    unfold ownOk at o
    rw [List.all_cons, Bool.and_eq_true] at o
    have h1 := (h.at v).noIo o.1
    have h2 : noIo env vs = true := noIo_of h o.2
    unfold noIo at h2 ⊢
    rw [List.all_cons, h2, Bool.and_true]
    cases e : env.getD v .un <;> first | rfl | (rw [e] at h1; cases h1)

/-- a step of the evaluator, to a known end -/
def Go {α : Type} (st : List KV) (m : M α) (a : α) (st' : List KV) : Prop := ∀ env, Is st env → ∃ env', m env = .ok a env' ∧ Is st' env'
theorem Go.pure {α : Type} {st : List KV} {a : α} : Go st (M.pure a) a st := fun env h => ⟨env, rfl, h⟩
theorem Go.bind {α β : Type} {st st1 st2 : List KV} {m : M α} {f : α → M β} {a : α} {b : β} (h : Go st m a st1) (h2 : Go st1 (f a) b st2) : Go st (m >>= f) b st2 := fun env i => by
  obtain ⟨e1, h1, i1⟩ := h env i
  obtain ⟨e2, h2, i2⟩ := h2 e1 i1
  exact ⟨e2, bind_ok.mpr ⟨_, _, h1, h2⟩, i2⟩
theorem Go.lift {α : Type} {st : List KV} {o : Option α} {a : α} (h : o = some a) : Go st (Ev.lift o) a st := fun env i => ⟨env, lift_ok.mpr ⟨h, rfl⟩, i⟩
theorem Go.need {st : List KV} {c : Bool} (h : c = true) : Go st (Ev.need c) () st := fun env i => ⟨env, need_ok.mpr ⟨h, rfl⟩, i⟩
theorem Go.wk {α : Type} {st st0 st1 st2 : List KV} {m : M α} {a : α} (w : Wkn st st0) (h : Go st0 m a st1) (w2 : Wkn st1 st2) : Go st m a st2 := fun env i => by
  obtain ⟨e1, h1, i1⟩ := h env (w env i)
  exact ⟨e1, h1, w2 _ i1⟩
theorem Go.eq {α : Type} {st st1 : List KV} {m m' : M α} {a : α} (e : m = m') (h : Go st m' a st1) : Go st m a st1 := e ▸ h

/-- the value that is known of a name -/
inductive HasV (st : List KV) (i : Nat) : T → Prop where
  | sh {t : T} (h : Kat st i = .sh t) : HasV st i t
  | ow {t : T} (h : Kat st i = .ow t) : HasV st i t
  | io {t : T} (h : Kat st i = .io t) : HasV st i t
theorem go_peek {st : List KV} {i : Nat} {t : T} (h : HasV st i t) : Go st (peek i) t st := fun env e => by
  have k := e.at i
  refine ⟨env, ?_, e⟩
  unfold peek
  cases h with
  | sh h => rw [h] at k; rcases k with k | k <;> rw [k]
  | ow h => rw [h] at k; rw [show env.getD i .un = _ from k]
  | io h => rw [h] at k; rw [show env.getD i .un = _ from k]
theorem go_mine {st : List KV} {i : Nat} {t : T} (h : Kat st i = .ow t ∨ Kat st i = .io t) : Go st (mine i) t st := fun env e => by
  have k := e.at i
  refine ⟨env, ?_, e⟩
  unfold mine
  rcases h with h | h <;> (rw [h] at k; rw [show env.getD i .un = _ from k])
theorem go_chg_ow {st : List KV} {i : Nat} {t u : T} (h : Kat st i = .ow t) : Go st (chg i u) () (Kput st i (.ow u)) := fun env e => by
  have k := e.at i
  rw [h] at k
  refine ⟨_, ?_, e.put i (show KV.Ok (.ow u) (.ow u) from rfl)⟩
  unfold chg
  rw [show env.getD i .un = _ from k]
theorem go_chg_io {st : List KV} {i : Nat} {t u : T} (h : Kat st i = .io t) : Go st (chg i u) () (Kput st i (.io u)) := fun env e => by
  have k := e.at i
  rw [h] at k
  refine ⟨_, ?_, e.put i (show KV.Ok (.io u) (.io u) from rfl)⟩
  unfold chg
  rw [show env.getD i .un = _ from k]
theorem go_bnd_sh {st : List KV} {i : Nat} {t : T} {fr : Bool} (h : (Kat st i).notIo = true) : Go st (bnd i t fr) () (Kput st i (.sh t)) := fun env e => by
  have k := (e.at i).noIo h
  rw [bnd_eq, k]
  refine ⟨_, rfl, e.put i ?_⟩
  cases fr
  · exact .inl rfl
  · exact .inr rfl
theorem go_bnd_ow {st : List KV} {i : Nat} {t : T} (h : (Kat st i).notIo = true) : Go st (bnd i t true) () (Kput st i (.ow t)) := fun env e => by
  have k := (e.at i).noIo h
  rw [bnd_eq, k]
  exact ⟨_, rfl, e.put i (show KV.Ok (.ow t) (.ow t) from rfl)⟩

section
variable {C : Ctx} {st st1 st2 st3 st4 : List KV}
/-! ### expressions -/
def E (C : Ctx) (st : List KV) (e : Ex) (t : T) (fr : Bool) (st' : List KV) : Prop := ∀ env, Is st env → ∃ f env', evE C e env = .ok (t, f) env' ∧ (fr = true → f = true) ∧ Is st' env'
theorem Go.e {e : Ex} {t : T} {fr : Bool} (h : Go st (evE C e) (t, fr) st1) : E C st e t fr st1 := fun env i => by
  obtain ⟨e1, h1, i1⟩ := h env i
  exact ⟨_, e1, h1, id, i1⟩
theorem E.go {β : Type} {e : Ex} {t : T} {fr : Bool} {k : T × Bool → M β} {b : β} (h : E C st e t fr st1) (h2 : ∀ f, (fr = true → f = true) → Go st1 (k (t, f)) b st2) : Go st (evE C e >>= k) b st2 := fun env i => by
  obtain ⟨f, e1, h1, hf, i1⟩ := h env i
  obtain ⟨e2, h2, i2⟩ := h2 f hf e1 i1
  exact ⟨e2, bind_ok.mpr ⟨_, _, h1, h2⟩, i2⟩
theorem E.wk {e : Ex} {t : T} {fr : Bool} (w : Wkn st st1) (h : E C st1 e t fr st2) (w2 : Wkn st2 st3) : E C st e t fr st3 := fun env i => by
  obtain ⟨f, e1, h1, hf, i1⟩ := h env (w env i)
  exact ⟨f, e1, h1, hf, w2 _ i1⟩
theorem E.nofr {e : Ex} {t : T} {fr : Bool} (h : E C st e t fr st1) : E C st e t false st1 := fun env i => by
  obtain ⟨f, e1, h1, hf, i1⟩ := h env i
  exact ⟨f, e1, h1, (fun z => nomatch z), i1⟩
theorem E.to {e : Ex} {t u : T} {fr : Bool} (h : E C st e t fr st1) (q : t = u) : E C st e u fr st1 := q ▸ h
theorem e_var {i : Nat} {t : T} (h : Kat st i = .sh t) : E C st (.var i) t false st := fun env e => by
  have k := e.at i
  rw [h] at k
  rw [evE_var]
  unfold rd
  rcases k with k | k
  · rw [k]; exact ⟨_, _, rfl, id, e⟩
  · rw [k]
    refine ⟨_, _, rfl, id, ?_⟩
    have := e.put i (k := .sh t) (s := .sh t) (.inl rfl)
    rw [show Kput st i (.sh t) = st from by
      clear this k e
      revert i
      induction st with
      | nil => intro i h; cases h
      | cons x xs ih =>
        intro i h
        cases i with
        | zero => show KV.sh t :: xs = _; rw [show x = _ from h]
        | succ i => show x :: Kput xs i (.sh t) = _; rw [ih h]] at this
    exact this
theorem e_varo {i : Nat} {t : T} (h : Kat st i = .ow t) : E C st (.var i) t false (Kput st i (.sh t)) := fun env e => by
  have k := e.at i
  rw [h] at k
  rw [evE_var]
  unfold rd
  rw [show env.getD i .un = _ from k]
  exact ⟨_, _, rfl, id, e.put i (.inl rfl)⟩
theorem e_k {t : T} : E C st (.k t) t false st := Go.e (Go.eq evE_k .pure)
theorem e_glb {x : Nat} {t : T} (h : C.glb x = some t) : E C st (.glb x) t false st := Go.e (Go.eq evE_glb ((Go.lift h).bind .pure))
/-- an operand, looked at when it is needed -/
def O (C : Ctx) (st : List KV) (e : Ex) (o : Opd) (st' : List KV) : Prop := Go st (evO C e) o st'
inductive RsO (st : List KV) : Opd → T → Prop where
  | val {t : T} : RsO st (.val t) t
  | var {i : Nat} {t : T} (h : HasV st i t) : RsO st (.slot i) t
theorem go_res {o : Opd} {t : T} (h : RsO st o t) : Go st (res o) t st := by
  cases h with
  | val => exact .pure
  | var h => exact go_peek h
def isVar : Ex → Bool
  | .var _ => true
  | _ => false
theorem o_var {i : Nat} {t : T} (h : HasV st i t) : O C st (.var i) (.slot i) st := (go_peek h).bind .pure
theorem o_val {e : Ex} {t : T} {fr : Bool} (h : E C st e t fr st1) (n : isVar e = false) : O C st e (.val t) st1 := by
  have q : evO C e = (do let (x, _) ← evE C e; M.pure (.val x)) := by
    unfold evO
    cases e <;> first | rfl | cases n
  exact Go.eq q (h.go fun _ _ => .pure)
/-- operands one behind the other, then looked at -/
def Os (C : Ctx) (st : List KV) (es : Exs) (ts : List T) (st' : List KV) : Prop := ∀ env, Is st env → ∃ os env', evOs C es env = .ok os env' ∧ Is st' env' ∧ resAll os env' = .ok ts env'
theorem os_nil : Os C st .nil [] st := fun env i => ⟨_, _, rfl, i, rfl⟩
theorem os_cons {e : Ex} {es : Exs} {o : Opd} {t : T} {ts : List T} (h : O C st e o st1) (h2 : Os C st1 es ts st2) (h3 : RsO st2 o t) : Os C st (.cons e es) (t :: ts) st2 := fun env i => by
  obtain ⟨e1, h1, i1⟩ := h env i
  obtain ⟨os, e2, h2, i2, h4⟩ := h2 e1 i1
  refine ⟨o :: os, e2, ?_, i2, ?_⟩
  · rw [evOs_cons]; exact bind_ok.mpr ⟨_, _, h1, bind_ok.mpr ⟨_, _, h2, rfl⟩⟩
  · unfold resAll
    obtain ⟨e3, h5, _⟩ := go_res h3 e2 i2
    have : e3 = e2 := by
      cases h3 with
      | val => cases h5; rfl
      | var h => exact ((peek_ok.mp h5).1).symm
    subst this
    exact bind_ok.mpr ⟨_, _, h5, bind_ok.mpr ⟨_, _, h4, rfl⟩⟩
theorem os_var {i : Nat} {es : Exs} {t t0 : T} {ts : List T} (h0 : HasV st i t0) (h2 : Os C st es ts st2) (h : HasV st2 i t) : Os C st (.cons (.var i) es) (t :: ts) st2 := os_cons (o_var h0) h2 (.var h)
theorem os_val {e : Ex} {es : Exs} {t : T} {fr : Bool} {ts : List T} (h : E C st e t fr st1) (n : isVar e = false) (h2 : Os C st1 es ts st2) : Os C st (.cons e es) (t :: ts) st2 := os_cons (o_val h n) h2 .val
theorem Os.two {a b : Ex} {x y : T} (h : Os C st (.cons a (.cons b .nil)) [x, y] st1) {β : Type} {k : T → T → M β} {z : β} (hk : Go st1 (k x y) z st2) :
    Go st (do let x ← evO C a; let y ← evO C b; let x ← res x; let y ← res y; k x y) z st2 := fun env i => by
  obtain ⟨os, e1, h1, i1, h2⟩ := h env i
  obtain ⟨e2, h3, i2⟩ := hk e1 i1
  rw [evOs_cons] at h1
  obtain ⟨o1, e3, g1, h1⟩ := bind_ok.mp h1
  obtain ⟨os1, e4, g2, h1⟩ := bind_ok.mp h1
  cases h1
  rw [evOs_cons] at g2
  obtain ⟨o2, e5, g3, g2⟩ := bind_ok.mp g2
  obtain ⟨os2, e6, g4, g2⟩ := bind_ok.mp g2
  cases g4; cases g2
  unfold resAll at h2
  obtain ⟨x1, e7, r1, h2⟩ := bind_ok.mp h2
  obtain ⟨xs1, e8, r2, h2⟩ := bind_ok.mp h2
  cases h2
  unfold resAll at r2
  obtain ⟨y1, e9, r3, r2⟩ := bind_ok.mp r2
  obtain ⟨ys1, e10, r4, r2⟩ := bind_ok.mp r2
  cases r4; cases r2
  exact ⟨e2, bind_ok.mpr ⟨_, _, g1, bind_ok.mpr ⟨_, _, g3, bind_ok.mpr ⟨_, _, r1, bind_ok.mpr ⟨_, _, r3, h3⟩⟩⟩⟩, i2⟩
theorem Os.one {a : Ex} {x : T} (h : Os C st (.cons a .nil) [x] st1) {β : Type} {k : T → M β} {z : β} (hk : Go st1 (k x) z st2) :
    Go st (do let x ← evO C a; let x ← res x; k x) z st2 := fun env i => by
  obtain ⟨os, e1, h1, i1, h2⟩ := h env i
  obtain ⟨e2, h3, i2⟩ := hk e1 i1
  rw [evOs_cons] at h1
  obtain ⟨o1, e3, g1, h1⟩ := bind_ok.mp h1
  obtain ⟨os1, e4, g2, h1⟩ := bind_ok.mp h1
  cases g2; cases h1
  unfold resAll at h2
  obtain ⟨x1, e7, r1, h2⟩ := bind_ok.mp h2
  obtain ⟨xs1, e8, r2, h2⟩ := bind_ok.mp h2
  cases r2; cases h2
  exact ⟨e2, bind_ok.mpr ⟨_, _, g1, bind_ok.mpr ⟨_, _, r1, h3⟩⟩, i2⟩
theorem Os.all {es : Exs} {ts : List T} (h : Os C st es ts st1) {β : Type} {k : List T → M β} {z : β} (hk : Go st1 (k ts) z st2) :
    Go st (do let os ← evOs C es; let ts ← resAll os; k ts) z st2 := fun env i => by
  obtain ⟨os, e1, h1, i1, h2⟩ := h env i
  obtain ⟨e2, h3, i2⟩ := hk e1 i1
  exact ⟨e2, bind_ok.mpr ⟨_, _, h1, bind_ok.mpr ⟨_, _, h2, h3⟩⟩, i2⟩
theorem e_bin {o : Bin} {a b : Ex} {x y t : T} {fr : Bool} (h : Os C st (.cons a (.cons b .nil)) [x, y] st1) (q : binF o x y = some (t, fr)) : E C st (.bin o a b) t fr st1 := Go.e (Go.eq evE_bin (h.two (.lift q)))
theorem e_cmp {o : Cmp} {a b : Ex} {x y : T} {p : Bool} (h : Os C st (.cons a (.cons b .nil)) [x, y] st1) (q : cmpF o x y = some p) : E C st (.cmp o a b) (.bl p) false st1 := Go.e (Go.eq evE_cmp (h.two (.lift (by rw [q]; rfl))))
theorem e_idx {a b : Ex} {x y t : T} (h : Os C st (.cons a (.cons b .nil)) [x, y] st1) (q : idxT x y = some t) : E C st (.idx a b) t false st1 := Go.e (Go.eq evE_idx (h.two (.lift (by rw [q]; rfl))))
theorem e_neg {a : Ex} {i : Int} (h : Os C st (.cons a .nil) [.int i] st1) : E C st (.neg a) (.int (-i)) false st1 := Go.e (Go.eq evE_neg (h.one ((Go.lift rfl).bind .pure)))
theorem e_not {a : Ex} {x : T} {b : Bool} (h : Os C st (.cons a .nil) [x] st1) (q : truT x = some b) : E C st (.not a) (.bl (!b)) false st1 := Go.e (Go.eq evE_not (h.one ((Go.lift q).bind .pure)))
theorem e_bif {b : Bif} {es : Exs} {ts : List T} {t : T} {fr : Bool} (h : Os C st es ts st1) (q : bifF b ts = some (t, fr)) : E C st (.bif b es) t fr st1 := Go.e (Go.eq evE_bif (h.all (.lift q)))
theorem e_isi {a : Ex} {ty : List Ty} {x t : T} {fr : Bool} (h : Os C st (.cons a .nil) [x] st1) (q : isiF ty x = some (t, fr)) : E C st (.isi a ty) t fr st1 := Go.e (Go.eq evE_isi (h.one (.lift q)))
/-- values one behind the other -/
def Es (C : Ctx) (st : List KV) (es : Exs) (ts : List T) (st' : List KV) : Prop := Go st (evEs C es) ts st'
theorem es_nil : Es C st .nil [] st := Go.pure
theorem es_cons {e : Ex} {es : Exs} {t : T} {fr : Bool} {ts : List T} (h : E C st e t fr st1) (h2 : Es C st1 es ts st2) : Es C st (.cons e es) (t :: ts) st2 := Go.eq evEs_cons (h.go fun _ _ => h2.bind .pure)
theorem e_tup {es : Exs} {ts : List T} (h : Es C st es ts st1) : E C st (.tup es) (.tup ts) false st1 := Go.e (Go.eq evE_tup (h.bind .pure))
theorem e_lst {es : Exs} {ts : List T} (h : Es C st es ts st1) : E C st (.lst es) (.lst ts) true st1 := Go.e (Go.eq evE_lst (h.bind .pure))
/-! ### tests -/
def Tt (C : Ctx) (st : List KV) (e : Ex) (b : Bool) (st' : List KV) : Prop := Go st (evT C e) b st'
def plainT : Ex → Bool
  | .var _ | .not _ | .and _ _ | .or _ _ | .ite _ _ _ => false
  | _ => true
theorem t_var {i : Nat} {t : T} {b : Bool} (h : HasV st i t) (q : truT t = some b) : Tt C st (.var i) b st := (go_peek h).bind (.lift q)
theorem t_e {e : Ex} {t : T} {fr b : Bool} (h : E C st e t fr st1) (q : truT t = some b) (n : plainT e = true) : Tt C st e b st1 := by
  have k : evT C e = (do let (x, _) ← evE C e; Ev.lift (truT x)) := by cases e <;> first | rfl | cases n
  exact Go.eq k (h.go fun _ _ => .lift q)
theorem t_not {a : Ex} {b : Bool} (h : Tt C st a b st1) : Tt C st (.not a) (!b) st1 := Go.bind h .pure
theorem t_and {a b : Ex} {p q : Bool} (h : Tt C st a p st1) (h1 : p = true → Tt C st1 b q st2) (h2 : p = false → q = false ∧ Wkn st1 st2) : Tt C st (.and a b) q st2 := by
  refine Go.bind h ?_
  cases p with
  | true => exact h1 rfl
  | false => obtain ⟨rfl, w⟩ := h2 rfl; exact Go.wk wr .pure w
theorem t_or {a b : Ex} {p q : Bool} (h : Tt C st a p st1) (h1 : p = true → q = true ∧ Wkn st1 st2) (h2 : p = false → Tt C st1 b q st2) : Tt C st (.or a b) q st2 := by
  refine Go.bind h ?_
  cases p with
  | true => obtain ⟨rfl, w⟩ := h1 rfl; exact Go.wk wr .pure w
  | false => exact h2 rfl
theorem t_and' {a b : Ex} {p q : Bool} (h : Tt C st a p st1) (h1 : p = true → Tt C st1 b q st1) : Tt C st (.and a b) (p && q) st1 := t_and h (fun e => by subst e; exact h1 rfl) (fun e => by subst e; exact ⟨rfl, wr⟩)
theorem t_or' {a b : Ex} {p q : Bool} (h : Tt C st a p st1) (h1 : p = false → Tt C st1 b q st1) : Tt C st (.or a b) (p || q) st1 := t_or h (fun e => by subst e; exact ⟨rfl, wr⟩) (fun e => by subst e; exact h1 rfl)
theorem t_ite {c a b : Ex} {p q : Bool} (h : Tt C st c p st1) (h1 : p = true → Tt C st1 a q st2) (h2 : p = false → Tt C st1 b q st2) : Tt C st (.ite c a b) q st2 := by
  refine Go.bind h ?_
  cases p with
  | true => exact h1 rfl
  | false => exact h2 rfl
theorem Tt.to {e : Ex} {b c : Bool} (h : Tt C st e b st1) (q : b = c) : Tt C st e c st1 := q ▸ h
theorem e_and {a b : Ex} {p : Bool} {t : T} {fr f2 : Bool} (h : E C st a (.bl p) fr st1) (h1 : p = true → E C st1 b t f2 st2) (h2 : p = false → t = .bl false ∧ Wkn st1 st2) : E C st (.and a b) t false st2 := by
  refine E.nofr (fr := false) fun env i => ?_
  obtain ⟨f, e1, g, hf, i1⟩ := h env i
  rw [evE_and]
  cases p with
  | true =>
    obtain ⟨f, e2, g2, hf, i2⟩ := h1 rfl e1 i1
    exact ⟨f, e2, bind_ok.mpr ⟨_, _, g, bind_ok.mpr ⟨true, _, rfl, g2⟩⟩, (fun z => nomatch z), i2⟩
  | false =>
    obtain ⟨rfl, w⟩ := h2 rfl
    exact ⟨_, e1, bind_ok.mpr ⟨_, _, g, bind_ok.mpr ⟨false, _, rfl, rfl⟩⟩, (fun z => nomatch z), w _ i1⟩
theorem e_or {a b : Ex} {p : Bool} {t : T} {fr f2 : Bool} (h : E C st a (.bl p) fr st1) (h1 : p = true → t = .bl true ∧ Wkn st1 st2) (h2 : p = false → E C st1 b t f2 st2) : E C st (.or a b) t false st2 := by
  refine E.nofr (fr := false) fun env i => ?_
  obtain ⟨f, e1, g, hf, i1⟩ := h env i
  rw [evE_or]
  cases p with
  | true =>
    obtain ⟨rfl, w⟩ := h1 rfl
    exact ⟨_, e1, bind_ok.mpr ⟨_, _, g, bind_ok.mpr ⟨true, _, rfl, rfl⟩⟩, (fun z => nomatch z), w _ i1⟩
  | false =>
    obtain ⟨f, e2, g2, hf, i2⟩ := h2 rfl e1 i1
    exact ⟨f, e2, bind_ok.mpr ⟨_, _, g, bind_ok.mpr ⟨false, _, rfl, g2⟩⟩, (fun z => nomatch z), i2⟩
theorem e_and' {a b : Ex} {p q : Bool} {fr f2 : Bool} (h : E C st a (.bl p) fr st1) (h1 : p = true → E C st1 b (.bl q) f2 st1) : E C st (.and a b) (.bl (p && q)) false st1 := e_and h (fun e => by subst e; exact h1 rfl) (fun e => by subst e; exact ⟨rfl, wr⟩)
theorem e_or' {a b : Ex} {p q : Bool} {fr f2 : Bool} (h : E C st a (.bl p) fr st1) (h1 : p = false → E C st1 b (.bl q) f2 st1) : E C st (.or a b) (.bl (p || q)) false st1 := e_or h (fun e => by subst e; exact ⟨rfl, wr⟩) (fun e => by subst e; exact h1 rfl)
theorem e_ite {c a b : Ex} {p : Bool} {t : T} {fr : Bool} (h : Tt C st c p st1) (h1 : p = true → E C st1 a t fr st2) (h2 : p = false → E C st1 b t fr st2) : E C st (.ite c a b) t fr st2 := fun env i => by
  obtain ⟨e1, g, i1⟩ := h env i
  rw [evE_ite]
  cases p with
  | true =>
    obtain ⟨f, e2, g2, hf, i2⟩ := h1 rfl e1 i1
    exact ⟨f, e2, bind_ok.mpr ⟨_, _, g, g2⟩, hf, i2⟩
  | false =>
    obtain ⟨f, e2, g2, hf, i2⟩ := h2 rfl e1 i1
    exact ⟨f, e2, bind_ok.mpr ⟨_, _, g, g2⟩, hf, i2⟩
theorem e_ite' {c a b : Ex} {p : Bool} {t u : T} {f1 f2 : Bool} (h : Tt C st c p st1) (h1 : p = true → E C st1 a t f1 st1) (h2 : p = false → E C st1 b u f2 st1) : E C st (.ite c a b) (if p then t else u) (f1 && f2) st1 := by
  refine e_ite h (fun e => ?_) (fun e => ?_)
  · subst e
    exact fun env i => by obtain ⟨f, e1, g, hf, i1⟩ := h1 rfl env i; exact ⟨f, e1, g, (fun z => hf (by cases f1 <;> simp_all)), i1⟩
  · subst e
    exact fun env i => by obtain ⟨f, e1, g, hf, i1⟩ := h2 rfl env i; exact ⟨f, e1, g, (fun z => hf (by cases f1 <;> simp_all)), i1⟩
end
end Ev

set_option Elab.async false
set_option linter.all false
set_option maxRecDepth 100000
set_option autoImplicit false
/-! calls, walks, comprehensions, statements by rules -/
namespace Ev
namespace R
/-- several in a row, each with what it makes, with a state -/
def eachS {α β σ : Type} (f : σ → α → R (σ × List β)) : σ → List α → R (σ × List β)
  | s, [] => .ok (s, [])
  | s, a :: l => (f s a).bind fun x => (eachS f x.1 l).bind fun y => .ok (y.1, x.2 ++ y.2)
def each {α β : Type} (f : α → R (List β)) : List α → R (List β)
  | [] => .ok []
  | a :: l => (f a).bind fun x => (each f l).bind fun y => .ok (x ++ y)
def mapR {α β : Type} (f : α → R β) : List α → R (List β)
  | [] => .ok []
  | a :: l => (f a).bind fun x => (mapR f l).bind fun y => .ok (x :: y)
def fold {α σ : Type} (f : σ → α → R σ) : σ → List α → R σ
  | s, [] => .ok s
  | s, a :: l => (f s a).bind fun s => fold f s l
inductive Lp (ρ σ : Type) where
  | nx (s : σ) | rt (r : ρ) | bk (s : σ)
def foldF {α σ ρ : Type} (f : σ → α → R (Lp ρ σ)) : σ → List α → R (Lp ρ σ)
  | s, [] => .ok (.nx s)
  | s, a :: l => (f s a).bind fun o => match o with
    | .nx s => foldF f s l
    | .bk s => .ok (.nx s)
    | .rt r => .ok (.rt r)
def whl {σ ρ : Type} (c : σ → R (Bool × σ)) (b : σ → R (Lp ρ σ)) : Nat → σ → R (Lp ρ σ)
  | 0, _ => .bad
  | n + 1, s => (c s).bind fun p => if p.1 then (b p.2).bind fun o => match o with
      | .nx s => whl c b n s
      | .bk s => .ok (.nx s)
      | .rt r => .ok (.rt r)
    else .ok (.nx p.2)
/-- .. behind it -/
def Lp.then {ρ σ β : Type} (o : Lp ρ σ) (rt : ρ → R β) (nx : σ → R β) : R β := match o with
  | .nx s => nx s
  | .bk s => nx s
  | .rt r => rt r
theorem lpE {ρ σ β : Type} {o : Lp ρ σ} {rt : ρ → R β} {nx : σ → R β} {b : β} {P : Prop} (h : o.then rt nx = .ok b) (f : ∀ r, o = .rt r → rt r = .ok b → P) (g : ∀ s, (o = .nx s ∨ o = .bk s) → nx s = .ok b → P) : P := by
  cases o with
  | nx s => exact g s (.inl rfl) h
  | bk s => exact g s (.inr rfl) h
  | rt r => exact f r rfl h
theorem iteE {β : Type} {c : Bool} {A B : R β} {b : β} {P : Prop} (h : (if c then A else B) = .ok b) (f : c = true → A = .ok b → P) (g : c = false → B = .ok b → P) : P := by
  cases c with
  | true => exact f rfl h
  | false => exact g rfl h
end R
open R (Lp)

theorem Kat_put : ∀ {st : List KV} {i j : Nat} {k : KV}, Kat (Kput st i k) j = if i = j ∧ i < st.length then k else Kat st j
  | [], i, j, k => by simp [Kput]
  | x :: xs, 0, 0, k => by simp [Kput, Kat]
  | x :: xs, 0, j + 1, k => by simp [Kput, Kat]
  | x :: xs, i + 1, 0, k => by simp [Kput, Kat]
  | x :: xs, i + 1, j + 1, k => by
    simp only [Kput, Kat]
    rw [Kat_put]; simp
theorem Kput_len : ∀ {st : List KV} {i : Nat} {k : KV}, (Kput st i k).length = st.length
  | [], _, _ => rfl
  | x :: xs, 0, _ => rfl
  | x :: xs, i + 1, _ => by simp [Kput, Kput_len]
theorem Kext : ∀ {st st' : List KV}, st.length = st'.length → (∀ i, i < st.length → Kat st i = Kat st' i) → st = st'
  | [], [], _, _ => rfl
  | [], _ :: _, h, _ => by cases h
  | _ :: _, [], h, _ => by cases h
  | x :: xs, y :: ys, h, e => by
    rw [show x = y from e 0 (by simp), Kext (Nat.succ.inj h) fun i hi => e (i + 1) (by simp; omega)]
theorem KwipeK_len {st : List KV} : ∀ own : List Nat, (KwipeK st own).length = st.length
  | [] => rfl
  | v :: vs => by unfold KwipeK; rw [Kput_len, KwipeK_len]
theorem Kback_len {st0 st : List KV} : ∀ own : List Nat, (Kback st0 st own).length = st.length
  | [] => rfl
  | v :: vs => by unfold Kback; rw [Kput_len, Kback_len]
theorem KwipeK_out {st : List KV} {i : Nat} : ∀ {own : List Nat}, i ∉ own → Kat (KwipeK st own) i = Kat st i
  | [], _ => rfl
  | v :: vs, h => by
    unfold KwipeK
    rw [Kat_put, if_neg (fun q => h (by rw [q.1]; exact List.mem_cons_self)), KwipeK_out fun q => h (List.mem_cons_of_mem _ q)]
theorem Kback_in {st0 st : List KV} {i : Nat} (hl : i < st.length) : ∀ {own : List Nat}, Kat (Kback st0 st own) i = if i ∈ own then Kat st0 i else Kat st i
  | [] => by simp [Kback]
  | v :: vs => by
    unfold Kback
    rw [Kat_put, Kback_len]
    by_cases e : v = i
    · subst e; simp [hl]
    · rw [if_neg (fun q => e q.1), Kback_in hl]
      have : (i ∈ v :: vs) = (i ∈ vs) := by simp [Ne.symm e]
      simp [Ne.symm e]
theorem Kback_wipe {st : List KV} (own : List Nat) : Kback st (KwipeK st own) own = st := by
  refine Kext (by rw [Kback_len, KwipeK_len]) fun i hi => ?_
  rw [Kback_len, KwipeK_len] at hi
  rw [Kback_in (by rw [KwipeK_len]; exact hi)]
  by_cases m : i ∈ own
  · rw [if_pos m]
  · rw [if_neg m, KwipeK_out m]

section
variable {C : Ctx} {st st1 st2 st3 st4 : List KV}
/-! ### calls -/
def Cal (C : Ctx) (f : Nat) (ts : List T) (t : T) (fr : Bool) (out : Option T) : Prop := ∃ f', C.call f ts = .ok t f' out ∧ (fr = true → f' = true)
theorem evA_vals {io : Option Nat} : ∀ (es : Exs) (j : Nat) {env env' : Env} {ts : List T}, (∀ k, io = some k → k < j) → evEs C es env = .ok ts env' → evA C io j es env = .ok (ts.map Opd.val) env'
  | .nil, j, env, env', ts, _, h => by cases h; rfl
  | .cons e es, j, env, env', ts, hj, h => by
    rw [evEs_cons] at h
    obtain ⟨⟨t, f⟩, e1, h1, h⟩ := bind_ok.mp h
    obtain ⟨us, e2, h2, h⟩ := bind_ok.mp h
    cases h
    rw [evA_cons, if_neg (fun z => by have := hj j z; omega)]
    exact bind_ok.mpr ⟨_, _, bind_ok.mpr ⟨_, _, h1, rfl⟩, bind_ok.mpr ⟨_, _, evA_vals es (j + 1) (fun k z => Nat.lt_succ_of_lt (hj k z)) h2, rfl⟩⟩
theorem resAll_vals {env : Env} : ∀ ts : List T, resAll (ts.map Opd.val) env = .ok ts env
  | [] => rfl
  | t :: ts => by
    rw [List.map_cons]
    unfold resAll
    exact bind_ok.mpr ⟨_, _, rfl, bind_ok.mpr ⟨_, _, resAll_vals ts, rfl⟩⟩
theorem doCall_vals {f : Nat} {ts : List T} {t : T} {fr : Bool} {env : Env} (hio : C.io f = none) (h : C.call f ts = .ok t fr none) : doCall C f (ts.map Opd.val) env = .ok (t, fr) env := by
  unfold doCall
  rw [hio]
  refine bind_ok.mpr ⟨(), env, rfl, bind_ok.mpr ⟨ts, env, resAll_vals ts, ?_⟩⟩
  rw [h]
  exact bind_ok.mpr ⟨(), env, rfl, rfl⟩
theorem e_call {f : Nat} {es : Exs} {ts : List T} {t : T} {fr : Bool} (hio : C.io f = none) (hs : Es C st es ts st1) (h : Cal C f ts t fr none) : E C st (.call f es) t fr st1 := fun env i => by
  obtain ⟨e1, h1, i1⟩ := hs env i
  obtain ⟨f', h, hf⟩ := h
  refine ⟨f', e1, ?_, hf, i1⟩
  rw [evE_call, hio]
  exact bind_ok.mpr ⟨_, _, evA_vals es 0 (fun _ z => nomatch z) h1, doCall_vals hio h⟩
theorem e_callk {f : Nat} {es ks : Exs} {perm : List Nat} {ts us vs : List T} {t : T} {fr : Bool} (hio : C.io f = none) (hs : Es C st es ts st1) (hk : Es C st1 ks us st2) (hp : (perm.filterMap fun i => (ts ++ us)[i]?) = vs) (h : Cal C f vs t fr none) : E C st (.callk f es ks perm) t fr st2 := fun env i => by
  obtain ⟨e1, h1, i1⟩ := hs env i
  obtain ⟨e2, h2, i2⟩ := hk e1 i1
  obtain ⟨f', h, hf⟩ := h
  refine ⟨f', e2, ?_, hf, i2⟩
  rw [evE_callk, hio]
  refine bind_ok.mpr ⟨_, _, evA_vals es 0 (fun _ z => nomatch z) h1, bind_ok.mpr ⟨_, _, evA_vals ks 0 (fun _ z => nomatch z) h2, ?_⟩⟩
  have : (perm.filterMap fun i => (ts.map Opd.val ++ us.map Opd.val)[i]?) = vs.map Opd.val := by
    rw [← hp, ← List.map_append, List.map_filterMap]
    congr 1
    funext i
    rw [List.getElem?_map]
  rw [this]
  exact doCall_vals hio h
theorem e_callio {f i : Nat} {es : Exs} {ts : List T} {p0 p t out : T} {fr : Bool} (hio : C.io f = some 0) (h0 : Kat st i = .io p0) (hs : Es C st es ts st1) (h1 : Kat st1 i = .io p) (h : Cal C f (p :: ts) t fr (some out)) :
    E C st (.call f (.cons (.var i) es)) t fr (Kput st1 i (.io out)) := fun env e => by
  obtain ⟨e1, g1, i1⟩ := hs env e
  obtain ⟨f', h, hf⟩ := h
  have s1 := i1.at i
  rw [h1] at s1
  have s1 : e1.getD i .un = .io p := s1
  have i2 := i1.put i (k := .io out) (s := .io out) rfl
  refine ⟨f', _, ?_, hf, i2⟩
  rw [evE_call, hio]
  obtain ⟨e0, q0, _⟩ := go_peek (HasV.io h0) env e
  have : e0 = env := ((peek_ok.mp q0).1).symm
  subst this
  refine bind_ok.mpr ⟨.slot i :: ts.map Opd.val, e1, ?_, ?_⟩
  · rw [evA_cons, if_pos rfl]
    exact bind_ok.mpr ⟨_, _, bind_ok.mpr ⟨_, _, q0, rfl⟩, bind_ok.mpr ⟨_, _, evA_vals es 1 (fun k z => by cases z; omega) g1, rfl⟩⟩
  · unfold doCall
    rw [hio]
    have m1 : mine i e1 = .ok p e1 := by unfold mine; rw [s1]
    have m2 : peek i e1 = .ok p e1 := by unfold peek; rw [s1]
    refine bind_ok.mpr ⟨(), e1, bind_ok.mpr ⟨_, _, m1, rfl⟩, bind_ok.mpr ⟨p :: ts, e1, ?_, ?_⟩⟩
    · unfold resAll
      exact bind_ok.mpr ⟨_, _, m2, bind_ok.mpr ⟨_, _, resAll_vals ts, rfl⟩⟩
    · rw [h]
      refine bind_ok.mpr ⟨(), _, ?_, rfl⟩
      show chg i out e1 = _
      unfold chg
      rw [s1]
theorem e_callow {f i : Nat} {es : Exs} {ts : List T} {p0 p t out : T} {fr : Bool} (hio : C.io f = some 0) (h0 : Kat st i = .ow p0) (hs : Es C st es ts st1) (h1 : Kat st1 i = .ow p) (h : Cal C f (p :: ts) t fr (some out)) :
    E C st (.call f (.cons (.var i) es)) t fr (Kput st1 i (.ow out)) := fun env e => by
  obtain ⟨e1, g1, i1⟩ := hs env e
  obtain ⟨f', h, hf⟩ := h
  have s1 := i1.at i
  rw [h1] at s1
  have s1 : e1.getD i .un = .ow p := s1
  have i2 := i1.put i (k := .ow out) (s := .ow out) rfl
  refine ⟨f', _, ?_, hf, i2⟩
  rw [evE_call, hio]
  obtain ⟨e0, q0, _⟩ := go_peek (HasV.ow h0) env e
  have : e0 = env := ((peek_ok.mp q0).1).symm
  subst this
  refine bind_ok.mpr ⟨.slot i :: ts.map Opd.val, e1, ?_, ?_⟩
  · rw [evA_cons, if_pos rfl]
    exact bind_ok.mpr ⟨_, _, bind_ok.mpr ⟨_, _, q0, rfl⟩, bind_ok.mpr ⟨_, _, evA_vals es 1 (fun k z => by cases z; omega) g1, rfl⟩⟩
  · unfold doCall
    rw [hio]
    have m1 : mine i e1 = .ok p e1 := by unfold mine; rw [s1]
    have m2 : peek i e1 = .ok p e1 := by unfold peek; rw [s1]
    refine bind_ok.mpr ⟨(), e1, bind_ok.mpr ⟨_, _, m1, rfl⟩, bind_ok.mpr ⟨p :: ts, e1, ?_, ?_⟩⟩
    · unfold resAll
      exact bind_ok.mpr ⟨_, _, m2, bind_ok.mpr ⟨_, _, resAll_vals ts, rfl⟩⟩
    · rw [h]
      refine bind_ok.mpr ⟨(), _, ?_, rfl⟩
      show chg i out e1 = _
      unfold chg
      rw [s1]
/-- the changed argument is a new list that nobody else holds -/
theorem e_callnew {f : Nat} {a : Ex} {es : Exs} {ts : List T} {p t out : T} {fr : Bool} (hio : C.io f = some 0) (ha : E C st a p true st1) (n : isVar a = false) (hr : isRef p = true) (hs : Es C st1 es ts st2) (h : Cal C f (p :: ts) t fr (some out)) :
    E C st (.call f (.cons a es)) t fr st2 := fun env e => by
  obtain ⟨fa, e0, q0, hfa, i0⟩ := ha env e
  have hfa := hfa rfl
  subst hfa
  obtain ⟨e1, g1, i1⟩ := hs e0 i0
  obtain ⟨f', h, hf⟩ := h
  refine ⟨f', _, ?_, hf, i1⟩
  rw [evE_call, hio]
  have q : evW C a = (do let (x, fr) ← evE C a; if fr && isRef x then M.pure (.own x) else fail) := by
    unfold evW
    cases a <;> first | rfl | cases n
  refine bind_ok.mpr ⟨.own p :: ts.map Opd.val, e1, ?_, ?_⟩
  · rw [evA_cons, if_pos rfl, q]
    refine bind_ok.mpr ⟨_, _, bind_ok.mpr ⟨_, _, q0, ?_⟩, bind_ok.mpr ⟨_, _, evA_vals es 1 (fun k z => by cases z; omega) g1, rfl⟩⟩
    show (if (true && isRef p) = true then M.pure (Opd.own p) else fail) e0 = _
    rw [if_pos (by rw [hr]; rfl)]; rfl
  · unfold doCall
    rw [hio]
    refine bind_ok.mpr ⟨(), e1, rfl, bind_ok.mpr ⟨p :: ts, e1, ?_, ?_⟩⟩
    · unfold resAll
      exact bind_ok.mpr ⟨_, _, rfl, bind_ok.mpr ⟨_, _, resAll_vals ts, rfl⟩⟩
    · rw [h]
      exact bind_ok.mpr ⟨(), _, rfl, rfl⟩
/-! ### walks -/
def Itr (C : Ctx) (st : List KV) (it : It) (xs : List T) (st' : List KV) : Prop := Go st (evIt C it) xs st'
theorem i_ex {e : Ex} {t : T} {fr : Bool} {xs : List T} (h : E C st e t fr st1) (q : seqOf t = some xs) : Itr C st (.ex e) xs st1 := Go.eq evIt_ex (h.go fun _ _ => .lift q)
theorem i_r1 {a : Ex} {i : Int} {xs : List T} (h : Os C st (.cons a .nil) [.int i] st1) (q : rngT 0 i = some xs) : Itr C st (.r1 a) xs st1 := Go.eq evIt_r1 (h.one ((Go.lift rfl).bind (.lift q)))
theorem i_r2 {a b : Ex} {i j : Int} {xs : List T} (h : Os C st (.cons a (.cons b .nil)) [.int i, .int j] st1) (q : rngT i j = some xs) : Itr C st (.r2 a b) xs st1 := Go.eq evIt_r2 (h.two ((Go.lift rfl).bind ((Go.lift rfl).bind (.lift q))))
theorem i_enum {e : Ex} {fr : Bool} {t : T} {xs : List T} (h : E C st e t fr st1) (q : enuF t = some xs) : Itr C st (.enum e) (enumL xs) st1 := Go.eq evIt_enum (h.go fun _ _ => (Go.lift q).bind .pure)
theorem i_zip {a b : Ex} {x y : T} {f1 f2 : Bool} {xs : List T} (h : E C st a x f1 st1) (h2 : E C st1 b y f2 st2) (q : zipF x y = some xs) : Itr C st (.zip a b) xs st2 := Go.eq evIt_zip (h.go fun _ _ => h2.go fun _ _ => .lift q)
theorem e_lrng {tp : Bool} {r : It} {xs : List T} (h : Itr C st r xs st1) : E C st (.lrng tp r) (if tp then .tup xs else .lst xs) (!tp) st1 := Go.e (Go.eq evE_lrng (Go.bind h .pure))
def Io (C : Ctx) (st : List KV) (e : Exo) (i : Option Int) (st' : List KV) : Prop := Go st (evI C e) i st'
theorem io_none : Io C st .none none st := Go.pure
theorem io_some {e : Ex} {i : Int} (h : Os C st (.cons e .nil) [.int i] st1) : Io C st (.some e) (some i) st1 := Go.eq evI_some (h.one ((Go.lift rfl).bind .pure))
theorem e_slc {a : Ex} {lo hi : Exo} {o : Opd} {x t : T} {l h : Option Int} (ha : O C st a o st1) (hl : Io C st1 lo l st2) (hh : Io C st2 hi h st3) (hx : RsO st3 o x) (q : slcT x l h = some t) : E C st (.slc a lo hi) t true st3 :=
  Go.e (Go.eq evE_slc (Go.bind ha (Go.bind hl (Go.bind hh ((go_res hx).bind ((Go.lift q).bind .pure))))))
theorem e_ixof {a b : Ex} {xs : List T} {y : T} {k : Nat} {o : Opd} {fr : Bool} (ha : O C st a o st1) (hx : RsO st1 o (.lst xs)) (hb : Os C st1 (.cons b .nil) [y] st1) (hd : (y.dat 60 && datAll 60 xs) = true) (q : (xs.findIdx? fun z => z.eqv y) = some k) :
    E C st (.ixof a b) (.int k) false st1 := by
  refine Go.e (Go.eq evE_ixof (Go.bind ha ((go_res hx).bind ((Go.lift rfl).bind ?_))))
  intro env i
  obtain ⟨os, e1, h1, i1, h2⟩ := hb env i
  rw [evOs_cons] at h1
  obtain ⟨o1, e3, g1, h1⟩ := bind_ok.mp h1
  obtain ⟨os1, e4, g2, h1⟩ := bind_ok.mp h1
  cases g2; cases h1
  unfold resAll at h2
  obtain ⟨x1, e7, r1, h2⟩ := bind_ok.mp h2
  obtain ⟨xs1, e8, r2, h2⟩ := bind_ok.mp h2
  cases r2; cases h2
  obtain ⟨e9, r9, i9⟩ := go_res hx _ i1
  have : e9 = e1 := by
    cases hx with
    | val => cases r9; rfl
    | var h => exact ((peek_ok.mp r9).1).symm
  subst this
  exact ⟨_, bind_ok.mpr ⟨_, _, g1, bind_ok.mpr ⟨_, _, r9, bind_ok.mpr ⟨_, _, r1, bind_ok.mpr ⟨_, _, lift_ok.mpr ⟨rfl, rfl⟩, bind_ok.mpr ⟨(), _, need_ok.mpr ⟨hd, rfl⟩, bind_ok.mpr ⟨_, _, lift_ok.mpr ⟨q, rfl⟩, rfl⟩⟩⟩⟩⟩⟩, i1⟩
/-! ### targets -/
def G (C : Ctx) (st : List KV) (tg : Tg) (t : T) (fr : Bool) (st' : List KV) : Prop := Go st (evG C tg t fr) () st'
def Gs (C : Ctx) (st : List KV) (ts : Tgs) (xs : List T) (st' : List KV) : Prop := Go st (evGs C ts xs) () st'
theorem g_nm {i : Nat} {t : T} {fr : Bool} (h : (Kat st i).notIo = true) : G C st (.nm i) t fr (Kput st i (.sh t)) := Go.eq evG_nm (go_bnd_sh h)
theorem g_nmo {i : Nat} {t : T} (h : (Kat st i).notIo = true) : G C st (.nm i) t true (Kput st i (.ow t)) := Go.eq evG_nm (go_bnd_ow h)
theorem g_tp {ts : Tgs} {xs : List T} {fr : Bool} (h : Gs C st ts xs st1) : G C st (.tp ts) (.tup xs) fr st1 := Go.eq evG_tp h
theorem g_tpl {ts : Tgs} {xs : List T} {fr : Bool} (h : Gs C st ts xs st1) : G C st (.tp ts) (.lst xs) fr st1 := Go.eq evG_tp h
theorem gs_nil : Gs C st .nil [] st := Go.pure
theorem gs_cons {t : Tg} {ts : Tgs} {x : T} {xs : List T} (h : G C st t x false st1) (h2 : Gs C st1 ts xs st2) : Gs C st (.cons t ts) (x :: xs) st2 := Go.eq evGs_cons (Go.bind h h2)
theorem g_sub {i : Nat} {e : Ex} {t : T} {fr : Bool} {xs xs' : List T} {j : Int} {k : Nat} (h0 : Kat st i = .ow (.lst xs')) (hs : Os C st (.cons e .nil) [.int j] st1) (h : Kat st1 i = .ow (.lst xs)) (q : L2.ixN xs.length j = some k) : G C st (.sub i e) t fr (Kput st1 i (.ow (.lst (xs.set k t)))) :=
  Go.eq evG_sub ((go_mine (.inl h0)).bind (hs.one ((Go.lift rfl).bind ((go_mine (.inl h)).bind ((Go.lift q).bind (go_chg_ow h))))))
theorem g_subio {i : Nat} {e : Ex} {t : T} {fr : Bool} {xs xs' : List T} {j : Int} {k : Nat} (h0 : Kat st i = .io (.lst xs')) (hs : Os C st (.cons e .nil) [.int j] st1) (h : Kat st1 i = .io (.lst xs)) (q : L2.ixN xs.length j = some k) : G C st (.sub i e) t fr (Kput st1 i (.io (.lst (xs.set k t)))) :=
  Go.eq evG_sub ((go_mine (.inr h0)).bind (hs.one ((Go.lift rfl).bind ((go_mine (.inr h)).bind ((Go.lift q).bind (go_chg_io h))))))
/-! ### comprehensions -/
def Ts (C : Ctx) (st : List KV) (es : Exs) (b : Bool) (st' : List KV) : Prop := Go st (evTs C es) b st'
theorem ts_nil : Ts C st .nil true st := Go.pure
theorem ts_one {e : Ex} {b : Bool} (h : Tt C st e b st1) : Ts C st (.cons e .nil) b st1 := by
  refine Go.eq evTs_cons (Go.bind h ?_)
  cases b with
  | true => exact Go.pure
  | false => exact Go.pure
theorem ts_two {e e2 : Ex} {b b2 : Bool} (h : Tt C st e b st1) (h2 : b = true → Ts C st1 (.cons e2 .nil) b2 st1) : Ts C st (.cons e (.cons e2 .nil)) (b && b2) st1 := by
  refine Go.eq evTs_cons (Go.bind h ?_)
  cases b with
  | true => exact h2 rfl
  | false => exact Go.pure
theorem go_turn {α : Type} {own : List Nat} {m : M α} {a : α} (h : Go st m a st1) : Go st (turn own m) a (KwipeK st1 own) := fun env i => by
  obtain ⟨e1, h1, i1⟩ := h env i
  refine ⟨wipe e1 own, ?_, i1.wipe own⟩
  unfold turn
  rw [h1]
theorem go_block {α : Type} {own : List Nat} {m : M α} {a : α} (ho : ownOk st own = true) (h : Go (KwipeK st own) m a st1) : Go st (block own m) a (Kback st st1 own) := fun env i => by
  obtain ⟨e1, h1, i1⟩ := h _ (i.wipe own)
  refine ⟨unwipe env e1 own, ?_, i.unwipe i1 own⟩
  unfold block
  rw [noIo_of i ho, h1]
theorem each_go {α β σ : Type} {S : σ → List KV} {step : T → M (List T)} {c : α → T} {d : β → T} {f : σ → α → R (σ × List β)} :
    ∀ (l : List α) (s s' : σ) (ys : List β), R.eachS f s l = .ok (s', ys) → (∀ a ∈ l, ∀ s s' y, f s a = .ok (s', y) → Go (S s) (step (c a)) (y.map d) (S s')) → Go (S s) (each step (l.map c)) (ys.map d) (S s')
  | [], s, s', ys, h, _ => by cases h; exact Go.pure
  | a :: l, s, s', ys, h, k => by
    unfold R.eachS at h
    refine R.bindE h fun x h1 h => R.bindE h fun y h2 h => ?_
    cases h
    rw [List.map_cons, List.map_append]
    unfold each
    exact Go.bind (k a List.mem_cons_self s x.1 x.2 h1) (Go.bind (each_go l x.1 y.1 y.2 h2 fun a m => k a (List.mem_cons_of_mem _ m)) .pure)
/-- a turn of a comprehension: tested and made -/
structure Trn (C : Ctx) (st0 : List KV) (elt : Ex) (tg : Tg) (ifs : Exs) (own : List Nat) (x : T) (p : Bool) (y : T) (stE : List KV) : Prop where
  go : ∃ st1 st2 st3 fr, G C st0 tg x false st1 ∧ Ts C st1 ifs p st2 ∧ (p = true → E C st2 elt y fr st3 ∧ KwipeK st3 own = stE) ∧ (p = false → KwipeK st2 own = stE)
theorem trn {elt : Ex} {tg : Tg} {ifs : Exs} {own : List Nat} {x y : T} {p fr : Bool} {st0 stE : List KV} (g : G C st0 tg x false st1) (t : Ts C st1 ifs p st2) (e : p = true → E C st2 elt y fr st3) (w : KwipeK st3 own = stE) (w2 : KwipeK st2 own = stE) : Trn C st0 elt tg ifs own x p y stE :=
  ⟨_, _, _, _, g, t, (fun z => ⟨e z, w⟩), fun _ => w2⟩
theorem Trn.run {elt : Ex} {tg : Tg} {ifs : Exs} {own : List Nat} {x y : T} {p : Bool} {st0 stE : List KV} (h : Trn C st0 elt tg ifs own x p y stE) :
    Go st0 (turn own (do evG C tg x false; let b ← evTs C ifs; if b then do let (y, _) ← evE C elt; M.pure [y] else M.pure [])) (if p then [y] else []) stE := by
  obtain ⟨st1, st2, st3, fr, g, t, e, w⟩ := h.go
  cases p with
  | true =>
    obtain ⟨e, w⟩ := e rfl
    rw [← w]
    exact go_turn (Go.bind g (Go.bind t (e.go fun _ _ => .pure)))
  | false =>
    rw [← w rfl]
    exact go_turn (Go.bind g (Go.bind t .pure))
theorem go_capped {xs : List T} (h : xs.length ≤ LIM) : Go st (lift (capped xs)) xs st := Go.lift (by unfold capped; rw [if_pos h])
theorem eachS_const {α β : Type} (p : α → Bool) (g : α → β) : ∀ l : List α, R.eachS (fun (_ : Unit) a => .ok ((), if p a then [g a] else [])) () l = .ok ((), (l.filter p).map g)
  | [] => rfl
  | a :: l => by
    unfold R.eachS
    rw [R.bind_ok, eachS_const p g l, R.bind_ok, List.filter_cons]
    cases p a <;> rfl
/-- a comprehension with tests and elements that are there -/
theorem e_comp {α β : Type} {l : List α} {c : α → T} {p : α → Bool} {g : α → β} {d : β → T} {elt : Ex} {tg : Tg} {it : It} {ifs : Exs} {own : List Nat} (hit : Itr C st it (l.map c) st1) (ho : ownOk st1 own = true)
    (hb : ∀ a, Trn C (KwipeK st1 own) elt tg ifs own (c a) (p a) (d (g a)) (KwipeK st1 own)) (hl : l.length ≤ LIM) : E C st (.comp elt tg it ifs own) (.lst (((l.filter p).map g).map d)) true st1 := by
  refine Go.e (Go.eq evE_comp (Go.bind hit ?_))
  have k := each_go (S := fun (_ : Unit) => KwipeK st1 own) (c := c) (d := d) (step := fun x => turn own (do evG C tg x false; let b ← evTs C ifs; if b then do let (y, _) ← evE C elt; M.pure [y] else M.pure [])) l () () _ (eachS_const p g l)
    (fun a _ s s' y h => by
      have e : (if p a then [g a] else []) = y := by cases h; rfl
      have := (hb a).run
      rw [← e]
      cases hp : p a <;> rw [hp] at this <;> exact this)
  have k2 := go_block ho k
  rw [Kback_wipe] at k2
  refine Go.bind k2 (Go.bind (go_capped ?_) .pure)
  rw [List.length_map, List.length_map]
  exact Nat.le_trans (List.length_filter_le _ _) hl
theorem e_compm {α β : Type} {l : List α} {c : α → T} {g : α → β} {d : β → T} {elt : Ex} {tg : Tg} {it : It} {own : List Nat} (hit : Itr C st it (l.map c) st1) (ho : ownOk st1 own = true)
    (hb : ∀ a, Trn C (KwipeK st1 own) elt tg .nil own (c a) true (d (g a)) (KwipeK st1 own)) (hl : l.length ≤ LIM) : E C st (.comp elt tg it .nil own) (.lst ((l.map g).map d)) true st1 := by
  have := e_comp (p := fun _ => true) hit ho hb hl
  rw [List.filter_eq_self.mpr (fun _ _ => rfl)] at this
  exact this
/-- .. with a state, and what may fail -/
theorem e_compS {α β σ : Type} {l : List α} {c : α → T} {d : β → T} {f : σ → α → R (σ × List β)} {S : σ → List KV} {s s' : σ} {ys : List β} {elt : Ex} {tg : Tg} {it : It} {ifs : Exs} {own : List Nat} (hr : R.eachS f s l = .ok (s', ys)) (hit : Itr C st it (l.map c) (S s)) (ho : ownOk (S s) own = true)
    (hb : ∀ a s s' y, f s a = .ok (s', y) → ∃ p z, Trn C (KwipeK (S s) own) elt tg ifs own (c a) p z (KwipeK (S s') own) ∧ y.map d = if p then [z] else []) (hl : ys.length ≤ LIM) (hk : Kback (S s) (KwipeK (S s') own) own = st2) : E C st (.comp elt tg it ifs own) (.lst (ys.map d)) true st2 := by
  refine Go.e (Go.eq evE_comp (Go.bind hit ?_))
  have k := each_go (S := fun s => KwipeK (S s) own) (c := c) (d := d) (step := fun x => turn own (do evG C tg x false; let b ← evTs C ifs; if b then do let (y, _) ← evE C elt; M.pure [y] else M.pure [])) l s s' ys hr
    (fun a _ s s' y h => by
      obtain ⟨p, z, t, e⟩ := hb a s s' y h
      rw [e]
      exact t.run)
  have k2 := go_block ho k
  rw [hk] at k2
  exact Go.bind k2 (Go.bind (go_capped (by rw [List.length_map]; exact hl)) .pure)
theorem eachS_each {α β : Type} (f : α → R (List β)) : ∀ (l : List α) {ys : List β}, R.each f l = .ok ys → R.eachS (fun (_ : Unit) a => (f a).bind fun y => .ok ((), y)) () l = .ok ((), ys)
  | [], ys, h => by cases h; rfl
  | a :: l, ys, h => by
    unfold R.each at h
    refine R.bindE h fun x h1 h => R.bindE h fun y h2 h => ?_
    cases h
    unfold R.eachS
    rw [h1]
    show (R.bind (R.eachS _ () l) _) = _
    rw [eachS_each f l h2]; rfl
theorem each_mapR {α β : Type} (f : α → R β) : ∀ (l : List α) {ys : List β}, R.mapR f l = .ok ys → R.each (fun a => (f a).bind fun y => .ok [y]) l = .ok ys
  | [], ys, h => by cases h; rfl
  | a :: l, ys, h => by
    unfold R.mapR at h
    refine R.bindE h fun x h1 h => R.bindE h fun y h2 h => ?_
    cases h
    unfold R.each
    rw [h1]
    show (R.bind (R.each _ l) _) = _
    rw [each_mapR f l h2]; rfl
theorem e_compR {α β : Type} {l : List α} {c : α → T} {d : β → T} {f : α → R (List β)} {ys : List β} {elt : Ex} {tg : Tg} {it : It} {ifs : Exs} {own : List Nat} (hr : R.each f l = .ok ys) (hit : Itr C st it (l.map c) st1) (ho : ownOk st1 own = true)
    (hb : ∀ a y, f a = .ok y → ∃ p z, Trn C (KwipeK st1 own) elt tg ifs own (c a) p z (KwipeK st1 own) ∧ y.map d = if p then [z] else []) (hl : ys.length ≤ LIM) : E C st (.comp elt tg it ifs own) (.lst (ys.map d)) true st1 :=
  e_compS (S := fun (_ : Unit) => st1) (eachS_each f l hr) hit ho (fun a s s' y h => R.bindE h fun x h1 h => by cases h; exact hb a _ h1) hl (Kback_wipe own)
theorem e_compM {α β : Type} {l : List α} {c : α → T} {d : β → T} {f : α → R β} {ys : List β} {elt : Ex} {tg : Tg} {it : It} {own : List Nat} (hr : R.mapR f l = .ok ys) (hit : Itr C st it (l.map c) st1) (ho : ownOk st1 own = true)
    (hb : ∀ a y, f a = .ok y → Trn C (KwipeK st1 own) elt tg .nil own (c a) true (d y) (KwipeK st1 own)) (hl : ys.length ≤ LIM) : E C st (.comp elt tg it .nil own) (.lst (ys.map d)) true st1 :=
  e_compR (each_mapR f l hr) hit ho (fun a y h => R.bindE h fun x h1 h => by cases h; exact ⟨true, d x, hb a _ h1, rfl⟩) hl
end
end Ev

set_option Elab.async false
set_option linter.all false
set_option maxRecDepth 100000
set_option autoImplicit false
/-! statements by rules -/
namespace Ev
open R (Lp)
/-- how a statement ends -/
inductive Oc where
  | nx (st : List KV) | rt (t : T) (fr : Bool) (st : List KV) | bk (st : List KV)
def GoO (st : List KV) (m : M Fl) : Oc → Prop
  | .nx st' => Go st m .nx st'
  | .bk st' => Go st m .bk st'
  | .rt t fr st' => ∀ env, Is st env → ∃ f env', m env = .ok (.rt t f) env' ∧ (fr = true → f = true) ∧ Is st' env'
theorem GoO.eq {st : List KV} {m m' : M Fl} {o : Oc} (e : m = m') (h : GoO st m' o) : GoO st m o := e ▸ h
theorem GoO.bind {α : Type} {st st1 : List KV} {m : M α} {f : α → M Fl} {a : α} {o : Oc} (h : Go st m a st1) (h2 : GoO st1 (f a) o) : GoO st (m >>= f) o := by
  cases o with
  | nx st' => exact Go.bind h h2
  | bk st' => exact Go.bind h h2
  | rt t fr st' =>
    intro env i
    obtain ⟨e1, h1, i1⟩ := h env i
    obtain ⟨f', e2, h2, hf, i2⟩ := h2 e1 i1
    exact ⟨f', e2, bind_ok.mpr ⟨_, _, h1, h2⟩, hf, i2⟩
section
variable {C : Ctx} {st st1 st2 st3 st4 : List KV} {o : Oc}
def S (C : Ctx) (st : List KV) (s : St) (o : Oc) : Prop := GoO st (evS C s) o
def SS (C : Ctx) (st : List KV) (ss : Sts) (o : Oc) : Prop := GoO st (evSs C ss) o
theorem ss_nil (w : Wkn st st1) : SS C st .nil (.nx st1) := Go.eq evSs_nil (Go.wk wr Go.pure w)
theorem ss_cons {s : St} {ss : Sts} (h : S C st s (.nx st1)) (h2 : SS C st1 ss o) : SS C st (.cons s ss) o := GoO.eq evSs_cons (GoO.bind (a := Fl.nx) h h2)
theorem ss_rt {s : St} {ss : Sts} {t : T} {fr : Bool} (h : S C st s (.rt t fr st1)) : SS C st (.cons s ss) (.rt t fr st1) := fun env i => by
  obtain ⟨f, e1, h1, hf, i1⟩ := h env i
  refine ⟨f, e1, ?_, hf, i1⟩
  rw [evSs_cons]
  exact bind_ok.mpr ⟨_, _, h1, rfl⟩
theorem ss_bk {s : St} {ss : Sts} (h : S C st s (.bk st1)) : SS C st (.cons s ss) (.bk st1) := fun env i => by
  obtain ⟨e1, h1, i1⟩ := h env i
  refine ⟨e1, ?_, i1⟩
  rw [evSs_cons]
  exact bind_ok.mpr ⟨_, _, h1, rfl⟩
theorem ss_wk {ss : Sts} (w : Wkn st st1) (h : SS C st1 ss o) : SS C st ss o := by
  cases o with
  | nx st' => exact Go.wk w h wr
  | bk st' => exact Go.wk w h wr
  | rt t fr st' => exact fun env i => h env (w env i)
theorem s_wk {s : St} (w : Wkn st st1) (h : S C st1 s o) : S C st s o := by
  cases o with
  | nx st' => exact Go.wk w h wr
  | bk st' => exact Go.wk w h wr
  | rt t fr st' => exact fun env i => h env (w env i)
theorem s_asg {tg : Tg} {e : Ex} {t : T} {fr : Bool} (h : E C st e t fr st1) (g : G C st1 tg t false st2) (hg : ∀ f, G C st1 tg t f st2) : S C st (.asg tg e) (.nx st2) :=
  Go.eq evS_asg (h.go fun f _ => Go.bind (hg _) .pure)
/-- a name gets a value -/
theorem s_set {i : Nat} {e : Ex} {t : T} {fr : Bool} (h : E C st e t fr st1) (n : (Kat st1 i).notIo = true) : S C st (.asg (.nm i) e) (.nx (Kput st1 i (.sh t))) :=
  Go.eq evS_asg (h.go fun f _ => Go.bind (g_nm n) .pure)
/-- .. a list of one's own -/
theorem s_seto {i : Nat} {e : Ex} {t : T} (h : E C st e t true st1) (n : (Kat st1 i).notIo = true) (r : isRef t = true) : S C st (.asg (.nm i) e) (.nx (Kput st1 i (.ow t))) :=
  Go.eq evS_asg (h.go fun f hf => Go.bind (a := ()) (by rw [hf rfl, r]; exact g_nmo n) .pure)
/-- several names get the parts -/
theorem s_tup {ts : Tgs} {e : Ex} {xs : List T} {fr : Bool} (h : E C st e (.tup xs) fr st1) (g : Gs C st1 ts xs st2) : S C st (.asg (.tp ts) e) (.nx st2) :=
  Go.eq evS_asg (h.go fun f _ => Go.bind (g_tp g) .pure)
theorem s_tupl {ts : Tgs} {e : Ex} {xs : List T} {fr : Bool} (h : E C st e (.lst xs) fr st1) (g : Gs C st1 ts xs st2) : S C st (.asg (.tp ts) e) (.nx st2) :=
  Go.eq evS_asg (h.go fun f _ => Go.bind (g_tpl g) .pure)
theorem s_sub {i : Nat} {e e' : Ex} {t : T} {fr : Bool} (h : E C st e t fr st1) (hg : ∀ f, G C st1 (.sub i e') t f st2) : S C st (.asg (.sub i e') e) (.nx st2) :=
  Go.eq evS_asg (h.go fun f _ => Go.bind (hg _) .pure)
def Ep (C : Ctx) (st : List KV) (es : Exs) (ts : List (T × Bool)) (st' : List KV) : Prop := ∀ env, Is st env → ∃ us env', evEp C es env = .ok us env' ∧ Is st' env' ∧ us.length = ts.length ∧ ∀ (i : Nat) (u : T × Bool), us[i]? = some u → ∃ p, ts[i]? = some p ∧ u.1 = p.1 ∧ (p.2 = true → u.2 = true)
/-- two at once -/
theorem s_two {t1 t2 : Tg} {a b : Ex} {x y : T} {f1 f2 : Bool} (ha : E C st a x f1 st1) (hb : E C st1 b y f2 st2) (g1 : ∀ f, (f1 = true → f = true) → G C st2 t1 x (f && isRef x) st3) (g2 : ∀ f, (f2 = true → f = true) → G C st3 t2 y (f && isRef y) st4) :
    S C st (.asg2 (.cons t1 (.cons t2 .nil)) (.cons a (.cons b .nil))) (.nx st4) := by
  refine Go.eq evS_asg2 ?_
  intro env i
  obtain ⟨u, e1, h1, hf1, i1⟩ := ha env i
  obtain ⟨v, e2, h2, hf2, i2⟩ := hb e1 i1
  obtain ⟨e3, h3, i3⟩ := g1 u hf1 e2 i2
  obtain ⟨e4, h4, i4⟩ := g2 v hf2 e3 i3
  refine ⟨e4, bind_ok.mpr ⟨[(x, u), (y, v)], e2, ?_, bind_ok.mpr ⟨(), e4, ?_, rfl⟩⟩, i4⟩
  · exact bind_ok.mpr ⟨_, _, h1, bind_ok.mpr ⟨_, _, bind_ok.mpr ⟨_, _, h2, bind_ok.mpr ⟨_, _, rfl, rfl⟩⟩, rfl⟩⟩
  · exact bind_ok.mpr ⟨_, _, h3, bind_ok.mpr ⟨_, _, h4, rfl⟩⟩
theorem g2_sh {i : Nat} {t : T} {f1 : Bool} (h : (Kat st i).notIo = true) : ∀ f, (f1 = true → f = true) → G C st (.nm i) t (f && isRef t) (Kput st i (.sh t)) := fun f _ => g_nm h
theorem g2_ow {i : Nat} {t : T} (h : (Kat st i).notIo = true) (r : isRef t = true) : ∀ f, (true = true → f = true) → G C st (.nm i) t (f && isRef t) (Kput st i (.ow t)) := fun f hf => by rw [hf rfl, r]; exact g_nmo h
theorem g2_any {tg : Tg} {t : T} {f1 : Bool} (h : ∀ f, G C st tg t f st1) : ∀ f, (f1 = true → f = true) → G C st tg t (f && isRef t) st1 := fun f _ => h _
theorem s_exp {e : Ex} {t : T} {fr : Bool} (h : E C st e t fr st1) : S C st (.exp e) (.nx st1) := Go.eq evS_exp (h.go fun _ _ => .pure)
theorem s_it {c : Ex} {a b : Sts} {p : Bool} (h : Tt C st c p st1) (hp : p = true) (k : SS C st1 a o) : S C st (.ite c a b) o := by
  subst hp; exact GoO.eq evS_ite (GoO.bind h k)
theorem s_if {c : Ex} {a b : Sts} {p : Bool} (h : Tt C st c p st1) (hp : p = false) (k : SS C st1 b o) : S C st (.ite c a b) o := by
  subst hp; exact GoO.eq evS_ite (GoO.bind h k)
theorem s_pass : S C st .pass (.nx st) := Go.eq evS_pass Go.pure
theorem s_brk (w : Wkn st st1) : S C st .brk (.bk st1) := Go.eq evS_brk (Go.wk wr Go.pure w)
theorem s_ret0 : S C st (.ret .none) (.rt .non false st) := fun env i => ⟨_, env, by rw [evS_ret]; rfl, (fun z => nomatch z), i⟩
theorem s_ret {e : Ex} {t : T} {fr : Bool} (h : E C st e t fr st1) (n : isVar e = false) : S C st (.ret (.some e)) (.rt t (fr && isRef t) st1) := fun env i => by
  obtain ⟨f, e1, h1, hf, i1⟩ := h env i
  have q : evR C (.some e) = evE C e := by cases e <;> first | rfl | cases n
  refine ⟨f && isRef t, e1, ?_, (fun z => ?_), i1⟩
  · rw [evS_ret, q]; exact bind_ok.mpr ⟨_, _, h1, rfl⟩
  · rw [Bool.and_eq_true] at z ⊢; exact ⟨hf z.1, z.2⟩
theorem evR_sh {env : Env} {i : Nat} {t : T} (k : env.getD i .un = .sh t) : evR C (.some (.var i)) env = .ok (t, false) env := by
  show (match env.getD i .un with | .sh t => Res.ok (t, false) env | .ow t => .ok (t, true) env | _ => .bad) = _
  rw [k]
theorem evR_ow {env : Env} {i : Nat} {t : T} (k : env.getD i .un = .ow t) : evR C (.some (.var i)) env = .ok (t, true) env := by
  show (match env.getD i .un with | .sh t => Res.ok (t, false) env | .ow t => .ok (t, true) env | _ => .bad) = _
  rw [k]
theorem s_retv {i : Nat} {t : T} (h : Kat st i = .sh t) : S C st (.ret (.some (.var i))) (.rt t false st) := fun env e => by
  have k := e.at i
  rw [h] at k
  rcases k with k | k
  · refine ⟨false && isRef t, env, ?_, (fun z => nomatch z), e⟩
    rw [evS_ret]
    exact bind_ok.mpr ⟨(t, false), env, evR_sh k, rfl⟩
  · refine ⟨true && isRef t, env, ?_, (fun z => nomatch z), e⟩
    rw [evS_ret]
    exact bind_ok.mpr ⟨(t, true), env, evR_ow k, rfl⟩
theorem s_reto {i : Nat} {t : T} (h : Kat st i = .ow t) : S C st (.ret (.some (.var i))) (.rt t (isRef t) st) := fun env e => by
  have k := e.at i
  rw [h] at k
  have k : env.getD i .un = .ow t := k
  refine ⟨true && isRef t, env, ?_, (fun z => z), e⟩
  rw [evS_ret]
  exact bind_ok.mpr ⟨(t, true), env, evR_ow k, rfl⟩
/-! ### loops -/
theorem Go.fold {α σ : Type} {Sf : σ → List KV} {step : T → M Fl} {c : α → T} {f : σ → α → R σ} : ∀ (l : List α) (s s' : σ), R.fold f s l = .ok s' → (∀ a ∈ l, ∀ s s', f s a = .ok s' → Go (Sf s) (step (c a)) .nx (Sf s')) → Go (Sf s) (loopF step (l.map c)) .nx (Sf s')
  | [], s, s', h, _ => by cases h; exact Go.pure
  | a :: l, s, s', h, k => by
    unfold R.fold at h
    refine R.bindE h fun s1 h1 h => ?_
    rw [List.map_cons]
    unfold loopF
    exact Go.bind (k a List.mem_cons_self s s1 h1) (Go.fold l s1 s' h fun a m => k a (List.mem_cons_of_mem _ m))
/-- a for whose turns all go on -/
theorem s_for {α σ : Type} {Sf : σ → List KV} {l : List α} {c : α → T} {f : σ → α → R σ} {s s' : σ} {tg : Tg} {it : It} {b : Sts} (hr : R.fold f s l = .ok s') (hit : Itr C st it (l.map c) st1) (w : Wkn st1 (Sf s))
    (hb : ∀ a s s', f s a = .ok s' → ∃ st2, G C (Sf s) tg (c a) false st2 ∧ SS C st2 b (.nx (Sf s'))) : S C st (.for tg it b) (.nx (Sf s')) :=
  Go.bind hit (Go.wk w (Go.fold l s s' hr fun a _ s s' h => by obtain ⟨st2, g, k⟩ := hb a s s' h; exact Go.bind g k) wr)
/-- how a loop ends -/
def lpO {σ ρ : Type} (Sf : σ → List KV) (Rt : ρ → T × Bool × List KV) : Lp ρ σ → Oc
  | .nx s => .nx (Sf s)
  | .bk s => .bk (Sf s)
  | .rt r => .rt (Rt r).1 (Rt r).2.1 (Rt r).2.2
def lpE {σ ρ : Type} (Sf : σ → List KV) (Rt : ρ → T × Bool × List KV) : Lp ρ σ → Oc
  | .nx s => .nx (Sf s)
  | .bk s => .nx (Sf s)
  | .rt r => .rt (Rt r).1 (Rt r).2.1 (Rt r).2.2
theorem go_rt_bind {t : T} {fr : Bool} {m : M Fl} {k : Fl → M Fl} (h : GoO st m (.rt t fr st1)) (hk : ∀ f, k (.rt t f) = M.pure (.rt t f)) : GoO st (m >>= k) (.rt t fr st1) := fun env i => by
  obtain ⟨f, e1, h1, hf, i1⟩ := h env i
  exact ⟨f, e1, bind_ok.mpr ⟨_, _, h1, by rw [hk]; rfl⟩, hf, i1⟩
theorem GoO.foldF {α σ ρ : Type} {Sf : σ → List KV} {Rt : ρ → T × Bool × List KV} {step : T → M Fl} {c : α → T} {f : σ → α → R (Lp ρ σ)} : ∀ (l : List α) (s : σ) (x : Lp ρ σ), R.foldF f s l = .ok x → (∀ a ∈ l, ∀ s x, f s a = .ok x → GoO (Sf s) (step (c a)) (lpO Sf Rt x)) → GoO (Sf s) (loopF step (l.map c)) (lpE Sf Rt x)
  | [], s, x, h, _ => by cases h; exact Go.pure
  | a :: l, s, x, h, k => by
    unfold R.foldF at h
    refine R.bindE h fun o h1 h => ?_
    rw [List.map_cons]
    unfold loopF
    have k1 := k a List.mem_cons_self s o h1
    cases o with
    | nx s1 => exact GoO.bind k1 (GoO.foldF l s1 x h fun a m => k a (List.mem_cons_of_mem _ m))
    | bk s1 => cases h; exact Go.bind k1 Go.pure
    | rt r => cases h; exact go_rt_bind k1 fun _ => rfl
theorem s_forF {α σ ρ : Type} {Sf : σ → List KV} {Rt : ρ → T × Bool × List KV} {l : List α} {c : α → T} {f : σ → α → R (Lp ρ σ)} {s : σ} {x : Lp ρ σ} {tg : Tg} {it : It} {b : Sts} (hr : R.foldF f s l = .ok x) (hit : Itr C st it (l.map c) st1) (w : Wkn st1 (Sf s))
    (hb : ∀ a s x, f s a = .ok x → ∃ st2, G C (Sf s) tg (c a) false st2 ∧ SS C st2 b (lpO Sf Rt x)) : S C st (.for tg it b) (lpE Sf Rt x) :=
  GoO.bind hit (by
    have k := GoO.foldF (Sf := Sf) (Rt := Rt) (c := c) (step := fun x => do evG C tg x false; evSs C b) l s x hr fun a _ s x h => by obtain ⟨st2, g, k⟩ := hb a s x h; exact GoO.bind g k
    cases x with
    | nx s' => exact Go.wk w k wr
    | bk s' => exact Go.wk w k wr
    | rt r => exact fun env i => k env (w env i))
theorem GoO.whl {σ ρ : Type} {Sf : σ → List KV} {Rt : ρ → T × Bool × List KV} {ct : M Bool} {bt : M Fl} {c : σ → R (Bool × σ)} {b : σ → R (Lp ρ σ)} (hc : ∀ s p, c s = .ok p → Go (Sf s) ct p.1 (Sf p.2)) (hb : ∀ s x, b s = .ok x → GoO (Sf s) bt (lpO Sf Rt x)) :
    ∀ (n : Nat) (s : σ) (x : Lp ρ σ), R.whl c b n s = .ok x → GoO (Sf s) (loopW ct bt n) (lpE Sf Rt x)
  | 0, s, x, h => by cases h
  | n + 1, s, x, h => by
    unfold R.whl at h
    refine R.bindE h fun p h1 h => ?_
    unfold loopW
    have k1 := hc s p h1
    refine GoO.bind k1 ?_
    refine R.iteE h (fun e h => ?_) (fun e h => ?_)
    · rw [e, if_pos rfl]
      refine R.bindE h fun o h2 h => ?_
      have k2 := hb p.2 o h2
      cases o with
      | nx s1 => exact GoO.bind k2 (GoO.whl hc hb n s1 x h)
      | bk s1 => cases h; exact Go.bind k2 Go.pure
      | rt r => cases h; exact go_rt_bind k2 fun _ => rfl
    · rw [e, if_neg (by decide)]
      cases h
      exact Go.pure
theorem s_whl {σ ρ : Type} {Sf : σ → List KV} {Rt : ρ → T × Bool × List KV} {e : Ex} {ss : Sts} {c : σ → R (Bool × σ)} {b : σ → R (Lp ρ σ)} {s : σ} {x : Lp ρ σ} {n : Nat} (hr : R.whl c b n s = .ok x) (hn : C.wh = n) (w : Wkn st (Sf s)) (hc : ∀ s p, c s = .ok p → Tt C (Sf s) e p.1 (Sf p.2)) (hb : ∀ s x, b s = .ok x → SS C (Sf s) ss (lpO Sf Rt x)) :
    S C st (.whl e ss) (lpE Sf Rt x) := by
  subst hn
  have k := GoO.whl (Sf := Sf) (Rt := Rt) hc hb C.wh s x hr
  cases x with
  | nx s' => exact Go.wk w k wr
  | bk s' => exact Go.wk w k wr
  | rt r => exact fun env i => k env (w env i)
/-! ### lists that grow -/
theorem Go.app {i : Nat} {e : Ex} {xs xs' : List T} {t : T} {fr : Bool} (h0 : Kat st i = .ow (.lst xs')) (h : E C st e t fr st1) (h1 : Kat st1 i = .ow (.lst xs)) (hl : xs.length < LIM) : E C st (.app i e) .non false (Kput st1 i (.ow (.lst (xs ++ [t])))) :=
  Go.e (Go.eq evE_app ((go_mine (.inl h0)).bind (h.go fun _ _ => (go_mine (.inl h1)).bind ((Go.need (decide_eq_true hl)).bind ((go_chg_ow h1).bind .pure)))))
theorem Go.ext {i : Nat} {e : Ex} {xs xs' ys : List T} {fr : Bool} (h0 : Kat st i = .ow (.lst xs')) (h : E C st e (.lst ys) fr st1) (h1 : Kat st1 i = .ow (.lst xs)) (hl : xs.length + ys.length ≤ LIM) : E C st (.ext i e) .non false (Kput st1 i (.ow (.lst (xs ++ ys)))) :=
  Go.e (Go.eq evE_ext ((go_mine (.inl h0)).bind (h.go fun _ _ => (Go.lift rfl).bind ((go_mine (.inl h1)).bind ((Go.need (decide_eq_true hl)).bind ((go_chg_ow h1).bind .pure))))))
theorem s_app {α : Type} {i : Nat} {e : Ex} {c : α → T} {l l' : List α} {a : α} {fr : Bool} (h0 : Kat st i = .ow (.lst (l'.map c))) (h : E C st e (c a) fr st1) (h1 : Kat st1 i = .ow (.lst (l.map c))) (hl : l.length < LIM) : S C st (.exp (.app i e)) (.nx (Kput st1 i (.ow (.lst ((l ++ [a]).map c))))) :=
  s_exp (by have := Go.app h0 h h1 (by rw [List.length_map]; exact hl); rw [List.map_append]; exact this)
theorem s_ext {α : Type} {i : Nat} {e : Ex} {c : α → T} {l l' k : List α} {fr : Bool} (h0 : Kat st i = .ow (.lst (l'.map c))) (h : E C st e (.lst (k.map c)) fr st1) (h1 : Kat st1 i = .ow (.lst (l.map c))) (hl : l.length + k.length ≤ LIM) : S C st (.exp (.ext i e)) (.nx (Kput st1 i (.ow (.lst ((l ++ k).map c))))) :=
  s_exp (by have := Go.ext h0 h h1 (by rw [List.length_map, List.length_map]; exact hl); rw [List.map_append]; exact this)
theorem e_pop {i : Nat} {e : Exo} {xs xs' : List T} {t : T} {j : Option Int} {k : Nat} (h0 : Kat st i = .ow (.lst xs')) (h : Io C st e j st1) (h1 : Kat st1 i = .ow (.lst xs)) (q : L2.ixN xs.length (j.getD (-1)) = some k) (q2 : xs[k]? = some t) : E C st (.pop i e) t false (Kput st1 i (.ow (.lst (xs.eraseIdx k)))) :=
  Go.e (Go.eq evE_pop ((go_mine (.inl h0)).bind (Go.bind h ((go_mine (.inl h1)).bind ((Go.lift q).bind ((Go.lift q2).bind ((go_chg_ow h1).bind .pure)))))))
/-! ### a def -/
def outK (st : List KV) : Option Nat → Option (Option T)
  | none => some none
  | some j => match Kat st j with
    | .io t => some (some t)
    | _ => none
theorem outOf_is {env : Env} {io : Option Nat} {x : Option T} (h : Is st env) (e : outK st io = some x) : outOf env io = some x := by
  cases io with
  | none => exact e
  | some j =>
    have e : (match Kat st j with | .io t => some (some t) | _ => none) = some x := e
    show (match env.getD j .un with | .io t => some (some t) | _ => none) = some x
    have k := h.at j
    cases q : Kat st j with
    | io t => rw [q] at e k; rw [show env.getD j .un = .io t from k]; exact e
    | un => rw [q] at e; cases e
    | sh t => rw [q] at e; cases e
    | ow t => rw [q] at e; cases e
theorem cal_rt {P : Prog} {wh n f : Nat} {d : FnD} {ts : List T} {st0 : List KV} {t : T} {fr : Bool} {out : Option T} (hd : P.fn f = some d) (hl : ts.length = d.np) (hs : Ev.start d ts = st0.map KV.toSl) (h : SS (ctx P wh n) st0 d.body (.rt t fr st)) (ho : outK st d.io = some out) : Cal (ctx P wh (n + 1)) f ts t fr out := by
  obtain ⟨f', e1, h1, hf, i1⟩ := h _ (Is.toSl st0)
  refine ⟨f', ?_, hf⟩
  show run P wh (n + 1) f ts = _
  rw [run_succ hd]
  unfold evFn
  rw [if_pos hl, hs, h1]
  show (match outOf e1 d.io with | none => _ | some out => _) = _
  rw [outOf_is i1 ho]
theorem cal_nx {P : Prog} {wh n f : Nat} {d : FnD} {ts : List T} {st0 : List KV} {out : Option T} (hd : P.fn f = some d) (hl : ts.length = d.np) (hs : Ev.start d ts = st0.map KV.toSl) (h : SS (ctx P wh n) st0 d.body (.nx st)) (ho : outK st d.io = some out) : Cal (ctx P wh (n + 1)) f ts .non false out := by
  obtain ⟨e1, h1, i1⟩ := h _ (Is.toSl st0)
  refine ⟨false, ?_, id⟩
  show run P wh (n + 1) f ts = _
  rw [run_succ hd]
  unfold evFn
  rw [if_pos hl, hs, h1]
  show (match outOf e1 d.io with | none => _ | some out => _) = _
  rw [outOf_is i1 ho]
theorem Cal.to {f : Nat} {ts : List T} {t u : T} {fr : Bool} {out : Option T} (h : Cal C f ts t fr out) (e : t = u) : Cal C f ts u fr out := e ▸ h
end
end Ev

set_option Elab.async false
set_option linter.all false
set_option maxRecDepth 100000
set_option autoImplicit false
/-! values of a shape, and what the operators make of them -/
namespace Ev
open PySem (PyData)
abbrev eLst {α : Type} (c : α → T) (l : List α) : T := .lst (l.map c)
abbrev eTup {α : Type} (c : α → T) (l : List α) : T := .tup (l.map c)
abbrev eScr (l : List Int) : T := .scr (l.map T.int)
abbrev eP1 {α : Type} (c : α → T) (p : α) : T := .tup [c p]
abbrev ePair {α β : Type} (c : α → T) (d : β → T) (p : α × β) : T := .tup [c p.1, d p.2]
abbrev eTrip {α β γ : Type} (c : α → T) (d : β → T) (e : γ → T) (p : α × β × γ) : T := .tup [c p.1, d p.2.1, e p.2.2]
abbrev eQuad {α β γ δ : Type} (c : α → T) (d : β → T) (e : γ → T) (f : δ → T) (p : α × β × γ × δ) : T := .tup [c p.1, d p.2.1, e p.2.2.1, f p.2.2.2]
abbrev eNon (_ : Unit) : T := .non
abbrev eP0 (_ : Unit) : T := .tup []
def eOpt {α : Type} (c : α → T) : Option α → T
  | none => .non
  | some x => c x
theorem eOpt_some {α : Type} (c : α → T) (x : α) : c x = eOpt c (some x) := rfl
theorem eOpt_none {α : Type} (c : α → T) : T.non = eOpt c none := rfl
def pmem {α : Type} [DecidableEq α] (x : α) (l : List α) : Bool := decide (x ∈ l)
@[simp] theorem pmem_iff {α : Type} [DecidableEq α] (x : α) (l : List α) : pmem x l = true ↔ x ∈ l := decide_eq_true_iff
def irange (a b : Int) : List Int := (List.range (b - a).toNat).map fun (i : Nat) => a + (i : Int)
def cutA {α : Type} (l : List α) (lo hi : Option Int) : List α := (l.drop (HT.sIx l.length 0 lo)).take (HT.sIx l.length l.length hi - HT.sIx l.length 0 lo)
def enumA {α : Type} (l : List α) : List (Int × α) := l.zipIdx.map fun p => ((p.2 : Int), p.1)
namespace R
def idx {α : Type} (l : List α) (i : Int) : R α := of (L2.atI l i)
def rng (a b : Int) : R (List Int) := if decide (-LIM ≤ a ∧ a ≤ LIM ∧ -LIM ≤ b ∧ b ≤ LIM) then .ok (irange a b) else .bad
def cap {α : Type} (l : List α) : R Unit := need (decide (l.length ≤ LIM))
def cat {α : Type} (l m : List α) : R (List α) := if decide (l.length + m.length ≤ LIM) then .ok (l ++ m) else .bad
def app {α : Type} (l : List α) (x : α) : R (List α) := if decide (l.length < LIM) then .ok (l ++ [x]) else .bad
def setI {α : Type} (l : List α) (i : Int) (x : α) : R (List α) := (of (L2.ixN l.length i)).bind fun k => .ok (l.set k x)
def popI {α : Type} (l : List α) (i : Int) : R (α × List α) := (of (L2.ixN l.length i)).bind fun k => (of l[k]?).bind fun x => .ok (x, l.eraseIdx k)
def mul (i j : Int) : R Int := if mulOk i j then .ok (i * j) else .bad
def fdiv (i j : Int) : R Int := if decide (0 < j ∧ j < 2 ^ 8000) then .ok (i / j) else .bad
def mod (i j : Int) : R Int := if decide (0 < j) then .ok (i % j) else .bad
def pow (i j : Int) : R Int := if decide (0 ≤ j ∧ j ≤ 1000 ∧ i.natAbs < 2 ^ 64) then .ok (i ^ j.toNat) else .bad
def maxL : List Int → R Int
  | [] => .bad
  | n :: ns => .ok (maxI n ns)
def minL : List Int → R Int
  | [] => .bad
  | n :: ns => .ok (minI n ns)
def ixof {α : Type} [DecidableEq α] (l : List α) (x : α) : R Int := (of (l.findIdx? fun z => decide (z = x))).bind fun k => .ok (k : Int)
def dvm (i j : Int) : R (Int × Int) := if decide (0 < j ∧ j < 2 ^ 20) then .ok (i / j, i % j) else .bad
def some {α : Type} : Option α → R α := of
def lset (l : List Int) : R Int := if decide (l.length ≤ 4000) then .ok ((ddupI l).length : Int) else .bad
theorem ifE {α : Type} {b : Bool} {a c : α} (h : (if b then R.ok a else .bad) = .ok c) : b = true ∧ a = c := by
  cases b with
  | true => exact ⟨rfl, by cases h; rfl⟩
  | false => cases h
end R
/-! ### == and in -/
structure EqE {α : Type} [DecidableEq α] (c : α → T) (k : Nat) : Prop where
  eqv : ∀ x y, PyData.eqv (c x).toD (c y).toD = decide (x = y)
  dat : ∀ n x, k ≤ n → (c x).dat n = true
theorem eqInt : EqE T.int 0 := ⟨eqv_int, fun _ _ _ => rfl⟩
theorem eqBl : EqE T.bl 0 := ⟨fun x y => by cases x <;> cases y <;> rfl, fun _ _ _ => rfl⟩
theorem eqNon : EqE eNon 0 := ⟨fun x y => by cases x; cases y; rfl, fun _ _ _ => rfl⟩
theorem eqP0 : EqE eP0 1 := ⟨fun x y => by cases x; cases y; rfl, fun n _ h => by show (decide (0 < n) && _) = true; rw [decide_eq_true (by omega)]; rfl⟩
section
variable {α β γ δ : Type} [DecidableEq α] [DecidableEq β] [DecidableEq γ] [DecidableEq δ] {c : α → T} {d : β → T} {e : γ → T} {f : δ → T} {k k1 k2 k3 : Nat}
theorem dat_tup {l : List T} {n : Nat} (h : 0 < n) (d : datAll (n - 1) l = true) : (T.tup l).dat n = true := by
  show (decide (0 < n) && _) = true; rw [decide_eq_true h, d]; rfl
theorem dat_lst {l : List T} {n : Nat} (h : 0 < n) (d : datAll (n - 1) l = true) : (T.lst l).dat n = true := by
  show (decide (0 < n) && _) = true; rw [decide_eq_true h, d]; rfl
theorem eqTup (h : EqE c k) : EqE (eTup c) (k + 1) := ⟨fun x y => eqvAll_map c h.eqv x y, fun n x hn => dat_tup (by omega) (datAll_map _ c (fun x => h.dat _ x (by omega)) x)⟩
theorem eqLst (h : EqE c k) : EqE (eLst c) (k + 1) := ⟨fun x y => eqvAll_map c h.eqv x y, fun n x hn => dat_lst (by omega) (datAll_map _ c (fun x => h.dat _ x (by omega)) x)⟩
theorem eqP1 (h : EqE c k) : EqE (eP1 c) (k + 1) := ⟨fun x y => by
    show (PyData.eqv (c x).toD (c y).toD && true) = _
    rw [h.eqv, Bool.and_true], fun n x hn => dat_tup (by omega) (by show ((c x).dat (n - 1) && true) = true; rw [h.dat _ _ (by omega)]; rfl)⟩
theorem eqPair (h : EqE c k) (h1 : EqE d k1) : EqE (ePair c d) (max k k1 + 1) := ⟨fun x y => by
    obtain ⟨a, b⟩ := x; obtain ⟨a', b'⟩ := y
    show (PyData.eqv (c a).toD (c a').toD && (PyData.eqv (d b).toD (d b').toD && true)) = _
    rw [h.eqv, h1.eqv, Bool.eq_iff_iff]; simp,
  fun n x hn => dat_tup (by omega) (by show ((c x.1).dat (n - 1) && ((d x.2).dat (n - 1) && true)) = true; rw [h.dat _ _ (by omega), h1.dat _ _ (by omega)]; rfl)⟩
theorem eqTrip (h : EqE c k) (h1 : EqE d k1) (h2 : EqE e k2) : EqE (eTrip c d e) (max k (max k1 k2) + 1) := ⟨fun x y => by
    obtain ⟨a, b, z⟩ := x; obtain ⟨a', b', z'⟩ := y
    show (PyData.eqv (c a).toD (c a').toD && (PyData.eqv (d b).toD (d b').toD && (PyData.eqv (e z).toD (e z').toD && true))) = _
    rw [h.eqv, h1.eqv, h2.eqv, Bool.eq_iff_iff]; simp,
  fun n x hn => dat_tup (by omega) (by show ((c x.1).dat (n - 1) && ((d x.2.1).dat (n - 1) && ((e x.2.2).dat (n - 1) && true))) = true; rw [h.dat _ _ (by omega), h1.dat _ _ (by omega), h2.dat _ _ (by omega)]; rfl)⟩
theorem eqQuad (h : EqE c k) (h1 : EqE d k1) (h2 : EqE e k2) (h3 : EqE f k3) : EqE (eQuad c d e f) (max k (max k1 (max k2 k3)) + 1) := ⟨fun x y => by
    obtain ⟨a, b, z, u⟩ := x; obtain ⟨a', b', z', u'⟩ := y
    show (PyData.eqv (c a).toD (c a').toD && (PyData.eqv (d b).toD (d b').toD && (PyData.eqv (e z).toD (e z').toD && (PyData.eqv (f u).toD (f u').toD && true)))) = _
    rw [h.eqv, h1.eqv, h2.eqv, h3.eqv, Bool.eq_iff_iff]; simp,
  fun n x hn => dat_tup (by omega) (by show ((c x.1).dat (n - 1) && ((d x.2.1).dat (n - 1) && ((e x.2.2.1).dat (n - 1) && ((f x.2.2.2).dat (n - 1) && true)))) = true; rw [h.dat _ _ (by omega), h1.dat _ _ (by omega), h2.dat _ _ (by omega), h3.dat _ _ (by omega)]; rfl)⟩
theorem eq_op (h : EqE c k) (x y : α) (hk : k ≤ 60 := by decide) : cmpF .eq (c x) (c y) = some (decide (x = y)) := by
  show eqT _ _ = _
  unfold eqT T.eqv
  rw [h.dat _ _ hk, h.dat _ _ hk, h.eqv]; rfl
theorem ne_op (h : EqE c k) (x y : α) (hk : k ≤ 60 := by decide) : cmpF .ne (c x) (c y) = some (!decide (x = y)) := by
  show (eqT _ _).map _ = _
  rw [show eqT (c x) (c y) = _ from eq_op h x y hk]; rfl
theorem in_lst (h : EqE c k) (x : α) (l : List α) (hk : k ≤ 60 := by decide) : cmpF .isin (c x) (eLst c l) = some (pmem x l) := by
  show (inTup (c x) (.lst (l.map c))).or (inL (c x) (l.map c)) = _
  rw [inL_map c h.eqv (fun x => h.dat _ x hk)]; rfl
theorem in_tup (h : EqE c k) (x : α) (l : List α) (hk : k ≤ 60 := by decide) : cmpF .isin (c x) (eTup c l) = some (pmem x l) := by
  show (inL (c x) (l.map c)).or (inLst (c x) (.tup (l.map c))) = _
  rw [inL_map c h.eqv (fun x => h.dat _ x hk)]; rfl
theorem nin_lst (h : EqE c k) (x : α) (l : List α) (hk : k ≤ 60 := by decide) : cmpF .notin (c x) (eLst c l) = some (!pmem x l) := by
  show (inT _ _).map _ = _
  rw [show inT (c x) (eLst c l) = _ from in_lst h x l hk]; rfl
theorem nin_tup (h : EqE c k) (x : α) (l : List α) (hk : k ≤ 60 := by decide) : cmpF .notin (c x) (eTup c l) = some (!pmem x l) := by
  show (inT _ _).map _ = _
  rw [show inT (c x) (eTup c l) = _ from in_tup h x l hk]; rfl
theorem ixof_eq (h : EqE c k) (x : α) (l : List α) : ((l.map c).findIdx? fun z => z.eqv (c x)) = l.findIdx? fun z => decide (z = x) := by
  rw [List.findIdx?_map]
  congr 1
  funext z
  exact h.eqv z x
end
theorem lt_op (i j : Int) : cmpF .lt (.int i) (.int j) = some (decide (i < j)) := rfl
theorem le_op (i j : Int) : cmpF .le (.int i) (.int j) = some (decide (i ≤ j)) := rfl
theorem gt_op (i j : Int) : cmpF .gt (.int i) (.int j) = some (decide (j < i)) := rfl
theorem ge_op (i j : Int) : cmpF .ge (.int i) (.int j) = some (decide (j ≤ i)) := rfl
theorem lt_pair (p q : Int × Int) : cmpF .lt (ePair T.int T.int p) (ePair T.int T.int q) = some (lexP p q) := ltT_pair p q
theorem lt_tup (p q : List Int) : cmpF .lt (eTup T.int p) (eTup T.int q) = some (HT.lexLt p q) := by
  show ltT _ _ = _
  unfold ltT onIB
  simp only [Option.none_or]
  unfold ltTup
  simp only [intsOf_map]
theorem le_tup (p q : List Int) : cmpF .le (eTup T.int p) (eTup T.int q) = some (!HT.lexLt q p) := by
  show leT _ _ = _
  unfold leT onIB
  simp only [Option.none_or]
  unfold leTup
  simp only [intsOf_map]
theorem le_pair (p q : Int × Int) : cmpF .le (ePair T.int T.int p) (ePair T.int T.int q) = some (!lexP q p) := by
  obtain ⟨a, b⟩ := p
  obtain ⟨c, d⟩ := q
  show some (!HT.lexLt [c, d] [a, b]) = _
  rw [lex_pair]
theorem is_non : cmpF .is .non .non = some true := rfl
theorem isnt_non : cmpF .isnt .non .non = some false := rfl
theorem is_bl (a b : Bool) : cmpF .is (.bl a) (.bl b) = some (decide (a = b)) := rfl
theorem isnt_bl (a b : Bool) : cmpF .isnt (.bl a) (.bl b) = some (!decide (a = b)) := rfl
theorem is_opt {α : Type} {c : α → T} (h : ∀ x, cmpF .is (c x) .non = some false) (o : Option α) : cmpF .is (eOpt c o) .non = some o.isNone := by
  cases o with
  | none => rfl
  | some x => exact h x
theorem isnt_opt {α : Type} {c : α → T} (h : ∀ x, cmpF .is (c x) .non = some false) (o : Option α) : cmpF .isnt (eOpt c o) .non = some o.isSome := by
  cases o with
  | none => rfl
  | some x =>
    show (isT (c x) .non).map _ = _
    rw [show isT (c x) .non = _ from h x]; rfl
/-! ### numbers -/
theorem mul_op {i j z : Int} (h : R.mul i j = .ok z) : binF .mul (.int i) (.int j) = some (.int z, true) := by
  obtain ⟨h1, rfl⟩ := R.ifE h
  show ((if mulOk i j then some (T.int (i * j)) else none).map _ |>.or _) = _
  rw [h1]; rfl
theorem fdiv_op {i j z : Int} (h : R.fdiv i j = .ok z) : binF .fdiv (.int i) (.int j) = some (.int z, true) := by
  obtain ⟨h1, rfl⟩ := R.ifE h
  show ((if 0 < j ∧ j < 2 ^ 8000 then some (T.int (i / j)) else none).map _) = _
  rw [if_pos (of_decide_eq_true h1)]; rfl
theorem mod_op {i j z : Int} (h : R.mod i j = .ok z) : binF .mod (.int i) (.int j) = some (.int z, true) := by
  obtain ⟨h1, rfl⟩ := R.ifE h
  exact mod_ok (of_decide_eq_true h1)
theorem pow_op {i j z : Int} (h : R.pow i j = .ok z) : binF .pow (.int i) (.int j) = some (.int z, true) := by
  obtain ⟨h1, rfl⟩ := R.ifE h
  show ((if 0 ≤ j ∧ j ≤ 1000 ∧ i.natAbs < 2 ^ 64 then some (T.int (i ^ j.toNat)) else none).map _) = _
  rw [if_pos (of_decide_eq_true h1)]; rfl
theorem add_op (i j : Int) : binF .add (.int i) (.int j) = some (.int (i + j), true) := rfl
theorem sub_op (i j : Int) : binF .sub (.int i) (.int j) = some (.int (i - j), true) := rfl
theorem mul_lit {i j : Int} (h : decide (i.natAbs < 2 ^ 64) = true) : binF .mul (.int i) (.int j) = some (.int (i * j), true) := mul_ok (of_decide_eq_true h)
theorem mul_lir {i j : Int} (h : decide (j.natAbs < 2 ^ 64) = true) : binF .mul (.int i) (.int j) = some (.int (i * j), true) := by
  refine mul_op (show R.mul i j = .ok (i * j) from ?_)
  unfold R.mul
  rw [if_pos]
  unfold mulOk
  rw [h]; simp
theorem fdiv_lit {i j : Int} (h : decide (0 < j ∧ j < 2 ^ 62) = true) : binF .fdiv (.int i) (.int j) = some (.int (i / j), true) := fdiv_ok (of_decide_eq_true h).1 (of_decide_eq_true h).2
theorem mod_lit {i j : Int} (h : decide (0 < j) = true) : binF .mod (.int i) (.int j) = some (.int (i % j), true) := mod_ok (of_decide_eq_true h)
theorem dvm_op {i j : Int} {z : Int × Int} (h : R.dvm i j = .ok z) : bifF .divmod [.int i, .int j] = some (ePair T.int T.int z, true) := by
  obtain ⟨h1, rfl⟩ := R.ifE h
  show (if 0 < j ∧ j < 2 ^ 20 then _ else _) = _
  rw [if_pos (of_decide_eq_true h1)]
theorem max2_op (i j : Int) : bifF .max2 [.int i, .int j] = some (.int (if j > i then j else i), false) := rfl
theorem min2_op (i j : Int) : bifF .min2 [.int i, .int j] = some (.int (if j < i then j else i), false) := rfl
theorem abs_op (i : Int) : bifF .abs [.int i] = some (.int (if i < 0 then -i else i), false) := rfl
theorem int_op (i : Int) : bifF .int [.int i] = some (.int i, false) := rfl
theorem intb_op (b : Bool) : bifF .int [.bl b] = some (.int (if b then 1 else 0), false) := rfl
/-! ### sequences -/
section
variable {α β : Type} {c : α → T} {d : β → T}
theorem len_tup (l : List α) : bifF .len [eTup c l] = some (.int (l.length : Int), false) := by
  show some (T.int ((l.map c).length : Int), false) = _
  rw [List.length_map]
theorem len_lst (l : List α) : bifF .len [eLst c l] = some (.int (l.length : Int), false) := by
  show some (T.int ((l.map c).length : Int), false) = _
  rw [List.length_map]
theorem len_scr (l : List Int) : bifF .len [eScr l] = some (.int (l.length : Int), false) := by
  show some (T.int ((l.map T.int).length : Int), false) = _
  rw [List.length_map]
theorem tup_lst (l : List α) : bifF .tuple [eLst c l] = some (eTup c l, false) := rfl
theorem tup_tup (l : List α) : bifF .tuple [eTup c l] = some (eTup c l, false) := rfl
theorem lst_tup (l : List α) : bifF .list [eTup c l] = some (eLst c l, true) := rfl
theorem lst_lst (l : List α) : bifF .list [eLst c l] = some (eLst c l, true) := rfl
theorem lst_scr (l : List Int) : bifF .list [eScr l] = some (eLst T.int l, true) := rfl
theorem atI_map (l : List α) (i : Int) : L2.atI (l.map c) i = (L2.atI l i).map c := by
  unfold L2.atI
  rw [List.length_map]
  cases L2.ixN l.length i with
  | none => rfl
  | some k => simp
theorem idx_tup' {l : List α} {i : Int} {a : α} (h : R.idx l i = .ok a) : idxT (eTup c l) (.int i) = some (c a) := by
  show L2.atI (l.map c) i = _
  rw [atI_map, R.ofE h]; rfl
theorem idx_lst' {l : List α} {i : Int} {a : α} (h : R.idx l i = .ok a) : idxT (eLst c l) (.int i) = some (c a) := by
  show L2.atI (l.map c) i = _
  rw [atI_map, R.ofE h]; rfl
theorem idx_scr' {l : List Int} {i : Int} {a : Int} (h : R.idx l i = .ok a) : idxT (eScr l) (.int i) = some (.int a) := by
  show L2.atI (l.map T.int) i = _
  rw [atI_map, R.ofE h]; rfl
theorem cut_map (l : List α) (lo hi : Option Int) : cutL (l.map c) lo hi = (cutA l lo hi).map c := by
  unfold cutL cutA
  rw [List.length_map, ← List.map_drop, ← List.map_take]
theorem slc_tup (l : List α) (lo hi : Option Int) : slcT (eTup c l) lo hi = some (eTup c (cutA l lo hi)) := by
  show some (T.tup (cutL (l.map c) lo hi)) = _
  rw [cut_map]
theorem slc_lst (l : List α) (lo hi : Option Int) : slcT (eLst c l) lo hi = some (eLst c (cutA l lo hi)) := by
  show some (T.lst (cutL (l.map c) lo hi)) = _
  rw [cut_map]
theorem slc_scr (l : List Int) (lo hi : Option Int) : slcT (eScr l) lo hi = some (eLst T.int (cutA l lo hi)) := by
  show some (T.lst (cutL (l.map T.int) lo hi)) = _
  rw [cut_map]
theorem cat_tup {l m z : List α} (h : R.cat l m = .ok z) : binF .add (eTup c l) (eTup c m) = some (eTup c z, true) := by
  obtain ⟨h1, rfl⟩ := R.ifE h
  have h1 := of_decide_eq_true h1
  show (addT _ _).or _ = _
  unfold addT
  simp only
  rw [List.length_map, List.length_map, if_pos h1, ← List.map_append]; rfl
theorem cat_lst {l m z : List α} (h : R.cat l m = .ok z) : binF .add (eLst c l) (eLst c m) = some (eLst c z, true) := by
  obtain ⟨h1, rfl⟩ := R.ifE h
  have h1 := of_decide_eq_true h1
  rw [addl_ok (by rw [List.length_map, List.length_map]; exact h1), ← List.map_append]
theorem rng_op {a b : Int} {l : List Int} (h : R.rng a b = .ok l) : rngT a b = some (l.map T.int) := by
  obtain ⟨h1, rfl⟩ := R.ifE h
  have h1 := of_decide_eq_true h1
  unfold rngT rng irange
  rw [if_pos h1, List.map_map]; rfl
theorem rng_lit {a b : Int} (h : decide (-LIM ≤ a ∧ a ≤ LIM ∧ -LIM ≤ b ∧ b ≤ LIM) = true) : rngT a b = some ((irange a b).map T.int) := rng_op (by unfold R.rng; rw [h]; rfl)
theorem enum_map (l : List α) : enumL (l.map c) = (enumA l).map (ePair T.int c) := by
  unfold enumL enumA
  rw [List.zipIdx_map, List.map_map, List.map_map]; rfl
theorem zip_lst (l : List α) (m : List β) : zipF (eLst c l) (eLst d m) = some ((l.zip m).map (ePair c d)) := by
  show some (zipL _ _) = _
  unfold zipL
  rw [List.zip_map, List.map_map]; rfl
theorem zip_tup (l : List α) (m : List β) : zipF (eTup c l) (eTup d m) = some ((l.zip m).map (ePair c d)) := by
  show some (zipL _ _) = _
  unfold zipL
  rw [List.zip_map, List.map_map]; rfl
theorem zip_lt (l : List α) (m : List β) : zipF (eLst c l) (eTup d m) = some ((l.zip m).map (ePair c d)) := by
  show some (zipL _ _) = _
  unfold zipL
  rw [List.zip_map, List.map_map]; rfl
theorem seq_tup (l : List α) : seqOf (eTup c l) = some (l.map c) := rfl
theorem seq_lst (l : List α) : seqOf (eLst c l) = some (l.map c) := rfl
theorem seq_scr (l : List Int) : seqOf (eScr l) = some (l.map T.int) := rfl
theorem tru_tup (l : List α) : truT (eTup c l) = some (!l.isEmpty) := by cases l <;> rfl
theorem tru_lst (l : List α) : truT (eLst c l) = some (!l.isEmpty) := by cases l <;> rfl
theorem tru_bl (b : Bool) : truT (.bl b) = some b := rfl
theorem tru_int (i : Int) : truT (.int i) = some (i != 0) := rfl
theorem all_lst (l : List Bool) : bifF .all [eLst T.bl l] = some (.bl (l.all id), false) := by
  show allF (.lst _) = _
  unfold allF
  simp only [blsOf_map, Option.map_some]
theorem any_lst (l : List Bool) : bifF .any [eLst T.bl l] = some (.bl (l.any id), false) := by
  show anyF (.lst _) = _
  unfold anyF
  simp only [blsOf_map, Option.map_some]
theorem sum_lst (l : List Int) : bifF .sum [eLst T.int l] = some (.int l.sum, false) := by
  show sumF (.lst _) = _
  unfold sumF
  simp only [seqOf, Option.bind_some, intsOf_map, Option.map_some]
theorem sum_tup (l : List Int) : bifF .sum [eTup T.int l] = some (.int l.sum, false) := by
  show sumF (.tup _) = _
  unfold sumF
  simp only [seqOf, Option.bind_some, intsOf_map, Option.map_some]
theorem max_lst {l : List Int} {z : Int} (h : R.maxL l = .ok z) : bifF .max [eLst T.int l] = some (.int z, false) := by
  cases l with
  | nil => cases h
  | cons n ns =>
    cases h
    show maxF (.lst _) = _
    unfold maxF
    simp only [intsOf_map]
theorem min_lst {l : List Int} {z : Int} (h : R.minL l = .ok z) : bifF .min [eLst T.int l] = some (.int z, false) := by
  cases l with
  | nil => cases h
  | cons n ns =>
    cases h
    show minF (.lst _) = _
    unfold minF
    simp only [intsOf_map]
theorem sort_ints (l : List Int) : bifF .sorted [eLst T.int l] = some (eLst T.int (sortI l), true) := sorted_ints l
theorem sort_pairs (l : List (Int × Int)) : bifF .sorted [eLst (ePair T.int T.int) l] = some (eLst (ePair T.int T.int) (sortP l), true) := by
  by_cases h : l = []
  · subst h; rfl
  · exact sorted_pairs h
theorem set_map (l : List α) (k : Nat) (a : α) : (l.map c).set k (c a) = (l.set k a).map c := by rw [List.map_set]
end
section
variable {C : Ctx} {st st1 st2 : List KV} {α : Type} {c : α → T}
theorem g_set {i : Nat} {e : Ex} {fr : Bool} {l l' z : List α} {j : Int} {a : α} (h0 : Kat st i = .ow (eLst c l')) (hs : Os C st (.cons e .nil) [.int j] st1) (h : Kat st1 i = .ow (eLst c l)) (q : R.setI l j a = .ok z) : G C st (.sub i e) (c a) fr (Kput st1 i (.ow (eLst c z))) := by
  refine R.bindE q fun k q1 q => ?_
  cases q
  have := g_sub (fr := fr) (t := c a) (k := k) h0 hs h (by rw [List.length_map]; exact R.ofE q1)
  rw [set_map] at this
  exact this
theorem g_setio {i : Nat} {e : Ex} {fr : Bool} {l l' z : List α} {j : Int} {a : α} (h0 : Kat st i = .io (eLst c l')) (hs : Os C st (.cons e .nil) [.int j] st1) (h : Kat st1 i = .io (eLst c l)) (q : R.setI l j a = .ok z) : G C st (.sub i e) (c a) fr (Kput st1 i (.io (eLst c z))) := by
  refine R.bindE q fun k q1 q => ?_
  cases q
  have := g_subio (fr := fr) (t := c a) (k := k) h0 hs h (by rw [List.length_map]; exact R.ofE q1)
  rw [set_map] at this
  exact this
theorem erase_map {α β : Type} (c : α → β) : ∀ (l : List α) (k : Nat), (l.map c).eraseIdx k = (l.eraseIdx k).map c
  | [], _ => rfl
  | x :: l, 0 => rfl
  | x :: l, k + 1 => by show c x :: (l.map c).eraseIdx k = _; rw [erase_map c l k]; rfl
theorem e_popI {i : Nat} {e : Exo} {l l' : List α} {j : Option Int} {z : α × List α} (h0 : Kat st i = .ow (eLst c l')) (h : Io C st e j st1) (h1 : Kat st1 i = .ow (eLst c l)) (q : R.popI l (j.getD (-1)) = .ok z) : E C st (.pop i e) (c z.1) false (Kput st1 i (.ow (eLst c z.2))) := by
  refine R.bindE q fun k q1 q => R.bindE q fun x q2 q => ?_
  cases q
  have := e_pop (t := c x) (k := k) h0 h h1 (by rw [List.length_map]; exact R.ofE q1) (by rw [List.getElem?_map, R.ofE q2]; rfl)
  rw [erase_map] at this
  exact this
theorem s_appR {i : Nat} {e : Ex} {l l' z : List α} {a : α} {fr : Bool} (h0 : Kat st i = .ow (eLst c l')) (h : E C st e (c a) fr st1) (h1 : Kat st1 i = .ow (eLst c l)) (q : R.app l a = .ok z) : S C st (.exp (.app i e)) (.nx (Kput st1 i (.ow (eLst c z)))) := by
  obtain ⟨q1, rfl⟩ := R.ifE q
  exact s_app h0 h h1 (of_decide_eq_true q1)
theorem s_extR {i : Nat} {e : Ex} {l l' k z : List α} {fr : Bool} (h0 : Kat st i = .ow (eLst c l')) (h : E C st e (eLst c k) fr st1) (h1 : Kat st1 i = .ow (eLst c l)) (q : R.cat l k = .ok z) : S C st (.exp (.ext i e)) (.nx (Kput st1 i (.ow (eLst c z)))) := by
  obtain ⟨q1, rfl⟩ := R.ifE q
  exact s_ext h0 h h1 (of_decide_eq_true q1)
theorem e_ixofv [DecidableEq α] {i : Nat} {b : Ex} {l : List α} {x : α} {z : Int} {k : Nat} (hc : EqE c k) (h : HasV st i (eLst c l)) (hb : Os C st (.cons b .nil) [c x] st) (q : R.ixof l x = .ok z) (hk : k ≤ 60 := by decide) : E C st (.ixof (.var i) b) (.int z) false st := by
  refine R.bindE q fun n q1 q => ?_
  cases q
  exact e_ixof (fr := false) (o_var h) (.var h) hb (by rw [hc.dat _ _ hk, datAll_map _ c (fun x => hc.dat _ x hk)]; rfl) (by rw [ixof_eq hc]; exact R.ofE q1)
end
namespace R
theorem okS {α : Type} {a b : α} (h : R.ok a = .ok b) : a = b := by cases h; rfl
theorem ifT {β : Type} {c : Bool} {A B : R β} {b : β} (h : (if c then A else B) = .ok b) (e : c = true) : A = .ok b := by subst e; exact h
theorem ifF {β : Type} {c : Bool} {A B : R β} {b : β} (h : (if c then A else B) = .ok b) (e : c = false) : B = .ok b := by subst e; exact h
theorem capE {α : Type} {l : List α} {u : Unit} (h : cap l = .ok u) : l.length ≤ LIM := of_decide_eq_true (needE h)
theorem absE {P : Prop} {b : Bool} (h : b = true) (e : b = false) : P := by subst h; cases e
end R
section
variable {C : Ctx} {st st1 st2 : List KV}
theorem s_retn {e : Ex} {t : T} {fr : Bool} (h : E C st e t fr st1) (n : isVar e = false) : S C st (.ret (.some e)) (.rt t false st1) := fun env i => by
  obtain ⟨f, e1, h1, _, i1⟩ := s_ret h n env i
  exact ⟨f, e1, h1, (fun z => nomatch z), i1⟩
theorem s_retf {e : Ex} {t : T} (h : E C st e t true st1) (n : isVar e = false) (r : isRef t = true) : S C st (.ret (.some e)) (.rt t true st1) := fun env i => by
  obtain ⟨f, e1, h1, k, i1⟩ := s_ret h n env i
  exact ⟨f, e1, h1, (fun z => k (by rw [r]; rfl)), i1⟩
theorem s_retof {i : Nat} {t : T} (h : Kat st i = .ow t) (r : isRef t = true) : S C st (.ret (.some (.var i))) (.rt t true st) := fun env e => by
  obtain ⟨f, e1, h1, k, i1⟩ := s_reto h env e
  exact ⟨f, e1, h1, (fun z => k r), i1⟩
theorem E.toSt {e : Ex} {t : T} {fr : Bool} (h : E C st e t fr st1) (q : st1 = st2) : E C st e t fr st2 := q ▸ h
theorem Tt.toSt {e : Ex} {b : Bool} (h : Tt C st e b st1) (q : st1 = st2) : Tt C st e b st2 := q ▸ h
theorem Tt.and_r {a b : Ex} {p q : Bool} (h : Tt C st a p st1) (h1 : p = true → Tt C st1 b q st2) (h2 : p = false → q = false ∧ Wkn st1 st2) : Tt C st (.and a b) q st2 := t_and h h1 h2
theorem trnT {elt : Ex} {tg : Tg} {ifs : Exs} {own : List Nat} {x y : T} {p fr : Bool} {st0 stE st3 : List KV} (g : G C st0 tg x false st1) (t : Ts C st1 ifs p st2) (hp : p = true) (e : E C st2 elt y fr st3) (w : KwipeK st3 own = stE) : Trn C st0 elt tg ifs own x true y stE :=
  ⟨_, _, _, _, g, hp ▸ t, (fun z => ⟨e, w⟩), fun z => nomatch z⟩
theorem trnF {elt : Ex} {tg : Tg} {ifs : Exs} {own : List Nat} {x y : T} {p : Bool} {st0 stE : List KV} (g : G C st0 tg x false st1) (t : Ts C st1 ifs p st2) (hp : p = false) (w : KwipeK st2 own = stE) : Trn C st0 elt tg ifs own x false y stE :=
  ⟨_, _, [], false, g, hp ▸ t, (fun z => nomatch z), fun z => w⟩
theorem ss_rtw {ss : Sts} {t : T} {fr : Bool} (h : SS C st ss (.rt t fr st1)) (w : Wkn st1 st2) : SS C st ss (.rt t fr st2) := fun env i => by
  obtain ⟨f, e1, h1, k, i1⟩ := h env i
  exact ⟨f, e1, h1, k, w _ i1⟩
open R (Lp) in
theorem S.lpRt {σ ρ : Type} {Sf : σ → List KV} {Rt : ρ → T × Bool × List KV} {s : St} {x : Lp ρ σ} {r : ρ} {t : T} {fr : Bool} {st2 : List KV} (h : S C st s (lpE Sf Rt x)) (e : x = .rt r) (q : Rt r = (t, fr, st2)) : S C st s (.rt t fr st2) := by
  subst e
  have h : S C st s (.rt (Rt r).1 (Rt r).2.1 (Rt r).2.2) := h
  rw [q] at h
  exact h
open R (Lp) in
theorem S.lpNx {σ ρ : Type} {Sf : σ → List KV} {Rt : ρ → T × Bool × List KV} {s : St} {x : Lp ρ σ} {m : σ} (h : S C st s (lpE Sf Rt x)) (e : x = .nx m ∨ x = .bk m) : S C st s (.nx (Sf m)) := by
  rcases e with rfl | rfl <;> exact h
theorem e_compf {α : Type} {l : List α} {c : α → T} {p : α → Bool} {elt : Ex} {tg : Tg} {it : It} {ifs : Exs} {own : List Nat} (hit : Itr C st it (l.map c) st1) (ho : ownOk st1 own = true)
    (hb : ∀ a, Trn C (KwipeK st1 own) elt tg ifs own (c a) (p a) (c a) (KwipeK st1 own)) (hl : l.length ≤ LIM) : E C st (.comp elt tg it ifs own) (eLst c (l.filter p)) true st1 := by
  have := e_comp (g := fun a => a) (d := c) hit ho hb hl
  rw [List.map_id'] at this
  exact this
end
end Ev

set_option Elab.async false
set_option linter.all false
set_option maxRecDepth 100000
set_option autoImplicit false
/-! more rules -/
namespace Ev
open PySem (PyData)
open R (Lp)
abbrev eQuin {α β γ δ ε : Type} (c : α → T) (d : β → T) (e : γ → T) (f : δ → T) (g : ε → T) (p : α × β × γ × δ × ε) : T := .tup [c p.1, d p.2.1, e p.2.2.1, f p.2.2.2.1, g p.2.2.2.2]
@[elab_as_elim] theorem R.okE2 {α β : Type} {a a' : α} {b b' : β} {P : α → β → Prop} (h : R.ok (a, b) = .ok (a', b')) (p : P a b) : P a' b' := by cases h; exact p
theorem eqOpt {α : Type} [DecidableEq α] {c : α → T} {k : Nat} (h : EqE c k) (h1 : ∀ x, PyData.eqv (c x).toD .none = false) (h2 : ∀ x, PyData.eqv .none (c x).toD = false) : EqE (eOpt c) k := ⟨fun x y => by
    cases x with
    | none =>
      cases y with
      | none => rfl
      | some y => exact (h2 y).trans (by simp)
    | some x =>
      cases y with
      | none => exact (h1 x).trans (by simp)
      | some y => exact (h.eqv x y).trans (by simp),
  fun n x hn => by
    cases x with
    | none => rfl
    | some x => exact h.dat n x hn⟩
theorem eqOptI {k : Nat} (h : EqE T.int k) : EqE (eOpt T.int) k := eqOpt h (fun _ => rfl) (fun _ => rfl)
theorem eqOptB {k : Nat} (h : EqE T.bl k) : EqE (eOpt T.bl) k := eqOpt h (fun _ => rfl) (fun _ => rfl)
theorem eqOptT {α : Type} [DecidableEq α] {c : α → T} {k : Nat} (h : EqE c k) (hc : ∀ x, ∃ xs, c x = .tup xs := by exact fun _ => ⟨_, rfl⟩) : EqE (eOpt c) k :=
  eqOpt h (fun x => by obtain ⟨xs, e⟩ := hc x; rw [e]; rfl) (fun x => by obtain ⟨xs, e⟩ := hc x; rw [e]; rfl)
namespace R
def repL {α : Type} (l : List α) (k : Int) : R (List α) := if decide (l.length * k.toNat ≤ LIM ∧ k < LIM ∧ -LIM < k) then .ok (List.replicate k.toNat l).flatten else .bad
def repT {α : Type} (l : List α) (k : Int) : R (List α) := if decide (0 < l.length ∧ -1000 ≤ k ∧ k ≤ 1000 ∧ l.length ≤ 1000) then .ok (List.replicate k.toNat l).flatten else .bad
end R
theorem rep_map {α : Type} {c : α → T} (l : List α) : ∀ k : Nat, (List.replicate k (l.map c)).flatten = ((List.replicate k l).flatten).map c
  | 0 => rfl
  | k + 1 => by rw [List.replicate_succ, List.flatten_cons, rep_map l k, List.replicate_succ, List.flatten_cons, List.map_append]
theorem rep_lst {α : Type} {c : α → T} {l z : List α} {k : Int} (h : R.repL l k = .ok z) : binF .mul (eLst c l) (.int k) = some (eLst c z, true) := by
  obtain ⟨h1, rfl⟩ := R.ifE h
  have h1 := of_decide_eq_true h1
  show (mulL _ _).or _ = _
  unfold mulL
  simp only
  rw [List.length_map, if_pos h1, rep_map]; rfl
theorem ne_nil_map {α : Type} {c : α → T} {l : List α} (h : 0 < l.length) : l.map c ≠ [] := by
  cases l with
  | nil => exact absurd h (Nat.lt_irrefl 0)
  | cons x l => intro e; cases e
theorem rep_tup {α : Type} {c : α → T} {l z : List α} {k : Int} (h : R.repT l k = .ok z) : binF .mul (eTup c l) (.int k) = some (eTup c z, true) := by
  obtain ⟨h1, rfl⟩ := R.ifE h
  have h0 := of_decide_eq_true h1
  clear h1
  obtain ⟨h1, h2, h3, h4⟩ := h0
  have q : binF .mul (eTup c l) (.int k) = (mulT (eTup c l) (.int k)).or (mulT1 (eTup c l) (.int k)) := rfl
  rw [q]
  unfold mulT mulT1
  simp only
  by_cases e : 2 ≤ k
  · rw [List.length_map, if_pos ⟨ne_nil_map h1, e, h3, h4⟩, rep_map]; rfl
  · rw [if_neg (fun z => e z.2.1)]
    by_cases e1 : k = 1
    · subst e1
      rw [if_pos ⟨ne_nil_map h1, rfl⟩]
      have : (List.replicate (1 : Int).toNat l).flatten = l := by show ([l] : List (List α)).flatten = l; simp
      rw [this]; rfl
    · rw [if_neg (fun z => e1 z.2), if_pos ⟨ne_nil_map h1, h2, by omega⟩]
      have : k.toNat = 0 := by omega
      rw [this]; rfl
section
variable {C : Ctx} {st st1 st2 st3 st4 : List KV}
theorem Go.toSt {α : Type} {m : M α} {a : α} (h : Go st m a st1) (e : st1 = st2) : Go st m a st2 := e ▸ h
theorem Go.toX {it : It} {xs ys : List T} (h : Itr C st it xs st1) (e : xs = ys) : Itr C st it ys st1 := e ▸ h
theorem S.nofr {s : St} {t : T} {fr : Bool} (h : S C st s (.rt t fr st1)) : S C st s (.rt t false st1) := fun env i => by
  obtain ⟨f, e1, h1, k, i1⟩ := h env i
  exact ⟨f, e1, h1, (fun z => nomatch z), i1⟩
theorem e_itev {α : Type} {c : α → T} {x y : α} {e a b : Ex} {p fr : Bool} (h : Tt C st e p st1) (h1 : p = true → E C st1 a (c x) fr st2) (h2 : p = false → E C st1 b (c y) fr st2) : E C st (.ite e a b) (c (if p then x else y)) fr st2 :=
  e_ite h (fun hp => by subst hp; exact h1 rfl) (fun hp => by subst hp; exact h2 rfl)
theorem RsO.det {o : Opd} {t : T} {env env' : Env} (h : RsO st o t) (i : Is st env) : res o env = .ok t env := by
  obtain ⟨e1, h1, _⟩ := go_res h env i
  have : e1 = env := by
    cases h with
    | val => cases h1; rfl
    | var h => exact ((peek_ok.mp h1).1).symm
  rw [h1, this]
theorem e_chn {o o' : Cmp} {a b c : Ex} {oa ob oc : Opd} {x y w : T} {p q : Bool} (ha : O C st a oa st) (hb : O C st b ob st) (hc : O C st c oc st) (ra : RsO st oa x) (rb : RsO st ob y) (rc : RsO st oc w) (q1 : cmpF o x y = some p) (q2 : cmpF o' y w = some q) :
    E C st (.chn o o' a b c) (.bl (p && q)) false st := fun env i => by
  obtain ⟨e1, h1, i1⟩ := ha env i
  obtain ⟨e2, h2, i2⟩ := hb e1 i1
  have r1 := RsO.det (env' := e2) ra i2
  have r2 := RsO.det (env' := e2) rb i2
  rw [evE_chn]
  cases p with
  | false => exact ⟨false, e2, bind_ok.mpr ⟨_, _, h1, bind_ok.mpr ⟨_, _, h2, bind_ok.mpr ⟨_, _, r1, bind_ok.mpr ⟨_, _, r2, bind_ok.mpr ⟨_, _, lift_ok.mpr ⟨q1, rfl⟩, rfl⟩⟩⟩⟩⟩, (fun z => nomatch z), i2⟩
  | true =>
    obtain ⟨e3, h3, i3⟩ := hc e2 i2
    have r3 := RsO.det (env' := e3) rb i3
    have r4 := RsO.det (env' := e3) rc i3
    exact ⟨false, e3, bind_ok.mpr ⟨_, _, h1, bind_ok.mpr ⟨_, _, h2, bind_ok.mpr ⟨_, _, r1, bind_ok.mpr ⟨_, _, r2, bind_ok.mpr ⟨_, _, lift_ok.mpr ⟨q1, rfl⟩, bind_ok.mpr ⟨_, _, h3, bind_ok.mpr ⟨_, _, r3, bind_ok.mpr ⟨_, _, r4, bind_ok.mpr ⟨_, _, lift_ok.mpr ⟨q2, rfl⟩, rfl⟩⟩⟩⟩⟩⟩⟩⟩⟩, (fun z => nomatch z), i3⟩
/-! ### double comprehensions -/
def inM (C : Ctx) (elt : Ex) (tg : Tg) (it : It) (ifs : Exs) (own : List Nat) : M (List T) := do
  let zs ← evIt C it
  wipeM own
  each (fun z => turn own (do
    evG C tg z false
    let b ← evTs C ifs
    if b then do
      let (y, _) ← evE C elt
      M.pure [y]
    else M.pure [])) zs
def In (C : Ctx) (st : List KV) (elt : Ex) (tg : Tg) (it : It) (ifs : Exs) (own own0 : List Nat) (ys : List T) (stE : List KV) : Prop := ∃ st', Go st (inM C elt tg it ifs own) ys st' ∧ KwipeK st' own0 = stE
theorem inEach {α β : Type} {c : α → T} {d : β → T} {f : α → R (List β)} {l : List α} {ys : List β} {elt : Ex} {tg : Tg} {it : It} {ifs : Exs} {own own0 : List Nat} {stE : List KV} (hr : R.each f l = .ok ys) (hit : Itr C st it (l.map c) st1)
    (hb : ∀ a y, f a = .ok y → ∃ p z, Trn C (KwipeK st1 own) elt tg ifs own (c a) p z (KwipeK st1 own) ∧ y.map d = if p then [z] else []) (w : KwipeK (KwipeK st1 own) own0 = stE) : In C st elt tg it ifs own own0 (ys.map d) stE := by
  refine ⟨_, Go.bind hit (Go.bind (a := ()) (st1 := KwipeK st1 own) (fun env i => ⟨_, rfl, i.wipe own⟩) ?_), w⟩
  exact each_go (S := fun (_ : Unit) => KwipeK st1 own) (c := c) (d := d) (step := fun x => turn own (do evG C tg x false; let b ← evTs C ifs; if b then do let (y, _) ← evE C elt; M.pure [y] else M.pure [])) l () () ys (eachS_each f l hr)
    (fun a _ s s' y h => R.bindE h fun x h1 h => by
      cases h
      obtain ⟨p, z, t, e⟩ := hb a _ h1
      rw [e]
      exact t.run)
theorem each_tot {α β : Type} (p : α → Bool) (g : α → β) : ∀ l : List α, R.each (fun a => .ok (if p a then [g a] else [])) l = .ok ((l.filter p).map g)
  | [] => rfl
  | a :: l => by
    unfold R.each
    rw [R.bind_ok, each_tot p g l, R.bind_ok, List.filter_cons]
    cases p a <;> rfl
section
variable {α β : Type} {c : α → T} {d : β → T} {p : α → Bool} {g : α → β} {l : List α} {elt : Ex} {tg : Tg} {it : It} {ifs : Exs} {own own0 : List Nat} {stE : List KV}
theorem inTot (hit : Itr C st it (l.map c) st1) (hb : ∀ a, Trn C (KwipeK st1 own) elt tg ifs own (c a) (p a) (d (g a)) (KwipeK st1 own)) (w : KwipeK (KwipeK st1 own) own0 = stE) : In C st elt tg it ifs own own0 (((l.filter p).map g).map d) stE :=
  inEach (each_tot p g l) hit (fun a y h => ⟨p a, d (g a), hb a, by cases h; cases p a <;> rfl⟩) w
theorem inTotM (hit : Itr C st it (l.map c) st1) (hb : ∀ a, Trn C (KwipeK st1 own) elt tg ifs own (c a) true (d (g a)) (KwipeK st1 own)) (w : KwipeK (KwipeK st1 own) own0 = stE) : In C st elt tg it ifs own own0 ((l.map g).map d) stE := by
  have := inTot (p := fun _ => true) (g := g) (d := d) hit hb w
  rw [List.filter_eq_self.mpr (fun _ _ => rfl)] at this
  exact this
theorem inTotF (hit : Itr C st it (l.map c) st1) (hb : ∀ a, Trn C (KwipeK st1 own) elt tg ifs own (c a) (p a) (c a) (KwipeK st1 own)) (w : KwipeK (KwipeK st1 own) own0 = stE) : In C st elt tg it ifs own own0 ((l.filter p).map c) stE := by
  have := inTot (g := fun a => a) (d := c) hit hb w
  rw [List.map_id'] at this
  exact this
theorem inTotMF (hit : Itr C st it (l.map c) st1) (hb : ∀ a, Trn C (KwipeK st1 own) elt tg ifs own (c a) true (c a) (KwipeK st1 own)) (w : KwipeK (KwipeK st1 own) own0 = stE) : In C st elt tg it ifs own own0 (l.map c) stE := by
  have := inTotM (g := fun a => a) (d := c) hit hb w
  rw [List.map_id'] at this
  exact this
end
def Go2 (C : Ctx) (st0 : List KV) (elt : Ex) (tg : Tg) (ifs : Exs) (tg1 : Tg) (it1 : It) (ifs1 : Exs) (own own1 : List Nat) (x : T) (ys : List T) (stE : List KV) : Prop :=
  Go st0 (turn own (do
      evG C tg x false
      let b ← evTs C ifs
      if b then inM C elt tg1 it1 ifs1 own1 else M.pure [])) ys stE
section
variable {elt : Ex} {tg tg1 : Tg} {it1 : It} {ifs ifs1 : Exs} {own own1 : List Nat} {x : T} {ys : List T} {st0 stE : List KV} {p : Bool}
theorem trn2T (g : G C st0 tg x false st1) (t : Ts C st1 ifs p st2) (hp : p = true) (h : In C st2 elt tg1 it1 ifs1 own1 own ys stE) : Go2 C st0 elt tg ifs tg1 it1 ifs1 own own1 x ys stE := by
  subst hp
  obtain ⟨st', h, w⟩ := h
  rw [← w]
  exact go_turn (Go.bind g (Go.bind t h))
theorem trn2F (g : G C st0 tg x false st1) (t : Ts C st1 ifs p st2) (hp : p = false) (w : KwipeK st2 own = stE) : Go2 C st0 elt tg ifs tg1 it1 ifs1 own own1 x [] stE := by
  subst hp
  rw [← w]
  exact go_turn (Go.bind g (Go.bind t .pure))
theorem trn2 (g : G C st0 tg x false st1) (t : Ts C st1 ifs true st2) (h : true = true → In C st2 elt tg1 it1 ifs1 own1 own ys stE) : Go2 C st0 elt tg ifs tg1 it1 ifs1 own own1 x ys stE := trn2T g t rfl (h rfl)
end
theorem e_comp2 {α β : Type} {l : List α} {c : α → T} {d : β → T} {f : α → R (List β)} {ys : List β} {elt : Ex} {tg tg1 : Tg} {it it1 : It} {ifs ifs1 : Exs} {own own1 : List Nat} (hr : R.each f l = .ok ys) (hit : Itr C st it (l.map c) st1) (ho : ownOk st1 own = true)
    (hb : ∀ a y, f a = .ok y → Go2 C (KwipeK st1 own) elt tg ifs tg1 it1 ifs1 own own1 (c a) (y.map d) (KwipeK st1 own)) (hl : ys.length ≤ LIM) : E C st (.comp2 elt tg it ifs tg1 it1 ifs1 own own1) (.lst (ys.map d)) true st1 := by
  refine Go.e (Go.eq evE_comp2 (Go.bind hit ?_))
  have k := each_go (S := fun (_ : Unit) => KwipeK st1 own) (c := c) (d := d) (step := fun x => turn own (do
      evG C tg x false
      let b ← evTs C ifs
      if b then inM C elt tg1 it1 ifs1 own1 else M.pure [])) l () () ys (eachS_each f l hr)
    (fun a _ s s' y h => R.bindE h fun x h1 h => by cases h; exact hb a _ h1)
  have k2 := go_block ho k
  rw [Kback_wipe] at k2
  exact Go.bind k2 (Go.bind (go_capped (by rw [List.length_map]; exact hl)) .pure)
end
end Ev

set_option Elab.async false
set_option linter.all false
set_option maxRecDepth 100000
set_option autoImplicit false
/-! slices with a step, calls of a local name, ranges with a step -/
namespace Ev
open PySem (PyData)
open R (Lp)
section
variable {C : Ctx} {st st1 st2 st3 st4 : List KV}
theorem e_stp {a : Ex} {k : Int} {x t : T} {fr : Bool} (h : Os C st (.cons a .nil) [x] st1) (q : stpF k x = some (t, fr)) : E C st (.stp a k) t fr st1 := Go.e (Go.eq evE_stp (h.one (.lift q)))
theorem e_lset {a : Ex} {l : List Int} {n : Int} (h : Os C st (.cons a .nil) [eLst T.int l] st1) (q : R.lset l = .ok n) : E C st (.lset a) (.int n) false st1 := by
  obtain ⟨h1, rfl⟩ := R.ifE q
  refine Go.e (Go.eq evE_lset (h.one (.lift ?_)))
  show (intsOf (l.map T.int)).bind _ = _
  rw [intsOf_map]
  exact if_pos (of_decide_eq_true h1)
theorem pick_map {α β : Type} (f : α → β) (k : Int) (l : List α) : HT.stpPick k (l.map f) = (HT.stpPick k l).map f := by
  unfold HT.stpPick
  rw [List.length_map, List.map_filterMap]
  congr 1
  funext m
  rw [List.getElem?_map]
theorem rev_tup {α : Type} {c : α → T} (l : List α) : stpF (-1) (eTup c l) = some (eTup c l.reverse, false) := by
  show (if (-1 : Int) = -1 ∨ (-1 : Int) = 2 then some (T.tup (HT.stpPick (-1) (l.map c)), false) else none) = _
  rw [if_pos (.inl rfl), HT.stp_rev, ← List.map_reverse]
theorem rev_lst {α : Type} {c : α → T} (l : List α) : stpF (-1) (eLst c l) = some (eLst c l.reverse, true) := by
  show (if (-1 : Int) = -1 then some (T.lst (l.map c).reverse, true) else none) = _
  rw [if_pos rfl, ← List.map_reverse]
/-- every second one -/
def evens {α : Type} : List α → List α
  | [] => []
  | [x] => [x]
  | x :: _ :: l => x :: evens l
theorem two_tup {α : Type} {c : α → T} (l : List α) : stpF 2 (eTup c l) = some (eTup c (HT.stpPick 2 l), false) := by
  show (if (2 : Int) = -1 ∨ (2 : Int) = 2 then some (T.tup (HT.stpPick 2 (l.map c)), false) else none) = _
  rw [if_pos (.inr rfl), pick_map]
theorem e_callv {i f : Nat} {fs : List Nat} {es : Exs} {ts : List T} {t : T} {fr : Bool} (hv : HasV st i (.fn f)) (hio : C.io f = none) (hf : fs.contains f = true) (hs : Es C st es ts st1) (h : Cal C f ts t fr none) : E C st (.callv i fs es) t fr st1 := fun env e => by
  obtain ⟨e0, q0, _⟩ := go_peek hv env e
  have : e0 = env := ((peek_ok.mp q0).1).symm
  subst this
  obtain ⟨e1, h1, i1⟩ := hs e0 e
  obtain ⟨f', h, hfr⟩ := h
  refine ⟨f', e1, ?_, hfr, i1⟩
  rw [evE_callv]
  refine bind_ok.mpr ⟨_, _, q0, bind_ok.mpr ⟨f, _, lift_ok.mpr ⟨rfl, rfl⟩, ?_⟩⟩
  show (if ((C.io f).isSome || !fs.contains f) = true then fail else _) _ = _
  rw [hio, hf, if_neg (by decide)]
  exact bind_ok.mpr ⟨_, _, evA_vals es 0 (fun _ z => nomatch z) h1, doCall_vals hio h⟩
theorem i_r3 {a b c : Ex} {i j k : Int} {xs : List T} (h : Os C st (.cons a (.cons b (.cons c .nil))) [.int i, .int j, .int k] st1) (q : decide (-LIM ≤ i ∧ i ≤ LIM ∧ -LIM ≤ j ∧ j ≤ LIM ∧ -LIM ≤ k ∧ k ≤ LIM) = true) (q2 : rng3 i j k = some xs) : Itr C st (.r3 a b c) xs st1 := fun env e => by
  obtain ⟨os, e1, h1, i1, h2⟩ := h env e
  rw [evOs_cons] at h1
  obtain ⟨o1, e3, g1, h1⟩ := bind_ok.mp h1
  obtain ⟨os1, e4, g2, h1⟩ := bind_ok.mp h1
  cases h1
  rw [evOs_cons] at g2
  obtain ⟨o2, e5, g3, g2⟩ := bind_ok.mp g2
  obtain ⟨os2, e6, g4, g2⟩ := bind_ok.mp g2
  cases g2
  rw [evOs_cons] at g4
  obtain ⟨o3, e7, g5, g4⟩ := bind_ok.mp g4
  obtain ⟨os3, e8, g6, g4⟩ := bind_ok.mp g4
  cases g6; cases g4
  unfold resAll at h2
  obtain ⟨x1, f1, r1, h2⟩ := bind_ok.mp h2
  obtain ⟨xs1, f2, r2, h2⟩ := bind_ok.mp h2
  cases h2
  unfold resAll at r2
  obtain ⟨y1, f3, r3, r2⟩ := bind_ok.mp r2
  obtain ⟨ys1, f4, r4, r2⟩ := bind_ok.mp r2
  cases r2
  unfold resAll at r4
  obtain ⟨z1, f5, r5, r4⟩ := bind_ok.mp r4
  obtain ⟨zs1, f6, r6, r4⟩ := bind_ok.mp r4
  cases r6; cases r4
  refine ⟨_, ?_, i1⟩
  rw [evIt_r3]
  exact bind_ok.mpr ⟨_, _, g1, bind_ok.mpr ⟨_, _, g3, bind_ok.mpr ⟨_, _, g5, bind_ok.mpr ⟨_, _, r1, bind_ok.mpr ⟨_, _, r3, bind_ok.mpr ⟨_, _, r5, bind_ok.mpr ⟨_, _, lift_ok.mpr ⟨rfl, rfl⟩, bind_ok.mpr ⟨_, _, lift_ok.mpr ⟨rfl, rfl⟩, bind_ok.mpr ⟨_, _, lift_ok.mpr ⟨rfl, rfl⟩, bind_ok.mpr ⟨(), _, need_ok.mpr ⟨q, rfl⟩, lift_ok.mpr ⟨q2, rfl⟩⟩⟩⟩⟩⟩⟩⟩⟩⟩⟩
/-- .. down, or by twos -/
def irange3 (a b c : Int) : List Int := (List.range (PySem.Builtin.Range.rangeSize a b c).toNat).map fun (i : Nat) => a + (i : Int) * c
def R.rng3 (a b c : Int) : R (List Int) := if decide (-LIM ≤ a ∧ a ≤ LIM ∧ -LIM ≤ b ∧ b ≤ LIM) then .ok (irange3 a b c) else .bad
theorem i_r3' {a b c : Ex} {i j k : Int} {l : List Int} (h : Os C st (.cons a (.cons b (.cons c .nil))) [.int i, .int j, .int k] st1) (hk : k = -1 ∨ k = 2) (q : R.rng3 i j k = .ok l) : Itr C st (.r3 a b c) (l.map T.int) st1 := by
  obtain ⟨q1, rfl⟩ := R.ifE q
  have hlim : (LIM : Int) = 1000000 := rfl
  have q1 := of_decide_eq_true q1
  refine i_r3 h (decide_eq_true ⟨q1.1, q1.2.1, q1.2.2.1, q1.2.2.2, by omega, by omega⟩) ?_
  unfold Ev.rng3 irange3
  rw [if_pos hk, List.map_map]; rfl
end
end Ev
namespace Ev
theorem opt_lst {α : Type} {c : α → T} (l : List α) : eLst c l = eLst (eOpt c) (l.map some) := by
  show T.lst _ = T.lst _
  rw [List.map_map]; rfl
theorem opt_tup {α : Type} {c : α → T} (l : List α) : eTup c l = eTup (eOpt c) (l.map some) := by
  show T.tup _ = T.tup _
  rw [List.map_map]; rfl
end Ev

set_option Elab.async false
set_option linter.all false
set_option maxRecDepth 100000
set_option autoImplicit false
/-! sorted, of tuples -/
namespace Ev
open PySem (PyData)
theorem insB_map {α β : Type} {lt : α → α → Bool} {lt' : β → β → Bool} (f : α → β) (h : ∀ x y, lt' (f x) (f y) = lt x y) (x : α) : ∀ l : List α, insB lt' (f x) (l.map f) = (insB lt x l).map f
  | [] => rfl
  | y :: l => by
    rw [List.map_cons]
    unfold insB
    rw [h]
    split
    · rw [insB_map f h x l]; rfl
    · rfl
theorem sortB_map {α β : Type} {lt : α → α → Bool} {lt' : β → β → Bool} (f : α → β) (h : ∀ x y, lt' (f x) (f y) = lt x y) : ∀ l : List α, sortB lt' (l.map f) = (sortB lt l).map f
  | [] => rfl
  | x :: l => by
    rw [List.map_cons]
    unfold sortB
    rw [sortB_map f h l, insB_map f h]
def toL (p : Int × Int) : List Int := [p.1, p.2]
theorem pairsOf_ints : ∀ {l : List (List Int)} {ps : List (Int × Int)}, pairsOf (l.map intsT) = some ps → l = ps.map toL
  | [], ps, h => by cases h; rfl
  | [i, j] :: l, ps, h => by
    have h : (pairsOf (l.map intsT)).map ((i, j) :: ·) = some ps := h
    obtain ⟨qs, h1, rfl⟩ := Option.map_eq_some_iff.mp h
    rw [List.map_cons, ← pairsOf_ints h1]; rfl
  | [] :: l, ps, h => by cases h
  | [_] :: l, ps, h => by cases h
  | (_ :: _ :: _ :: _) :: l, ps, h => by cases h
theorem tupsOf_ints : ∀ l : List (List Int), tupsOf (l.map intsT) = some l
  | [] => rfl
  | ns :: l => by
    show (intsOf (ns.map T.int)).bind (fun ns => (tupsOf (l.map intsT)).map (ns :: ·)) = _
    rw [intsOf_map, tupsOf_ints l]; rfl
def sortOk (l : List (List Int)) : Bool := l.all (fun ns => !ns.isEmpty) || headNil l
theorem sort_ints_lst {l : List (List Int)} (h : sortOk l = true) : bifF .sorted [.lst (l.map intsT)] = some (.lst ((sortB HT.lexLt l).map intsT), true) := by
  show (sortIF (.lst (l.map intsT))).or ((sortPF (.lst (l.map intsT))).or (sortTF (.lst (l.map intsT)))) = _
  cases l with
  | nil => rfl
  | cons x l =>
    have e1 : sortIF (.lst ((x :: l).map intsT)) = none := rfl
    rw [e1, Option.none_or]
    cases hp : pairsOf ((x :: l).map intsT) with
    | some ps =>
      have e := pairsOf_ints hp
      have e2 : sortPF (.lst ((x :: l).map intsT)) = some (.lst ((sortP ps).map pairT), true) := by
        show (pairsOf _).map _ = _
        rw [hp]; rfl
      rw [e2, Option.some_or, e, sortB_map (lt := lexP) toL (fun p q => lex_pair p.1 p.2 q.1 q.2), List.map_map]; rfl
    | none =>
      have e2 : sortPF (.lst ((x :: l).map intsT)) = none := by
        show (pairsOf _).map _ = _
        rw [hp]; rfl
      rw [e2, Option.none_or]
      show ((tupsOf _).bind _) = _
      rw [tupsOf_ints]
      exact if_pos h
theorem sort_ints_tup {l : List (List Int)} (h : sortOk l = true) : bifF .sorted [.tup (l.map intsT)] = some (.lst ((sortB HT.lexLt l).map intsT), true) := by
  show (none : Option (T × Bool)).or ((none : Option (T × Bool)).or (sortTF (.tup (l.map intsT)))) = _
  rw [Option.none_or, Option.none_or]
  show ((tupsOf _).bind _) = _
  rw [tupsOf_ints]
  exact if_pos h
theorem sort_lots {l : List (List Int)} {u : Unit} (h : R.need (sortOk l) = .ok u) : bifF .sorted [eLst (eTup T.int) l] = some (eLst (eTup T.int) (sortB HT.lexLt l), true) := sort_ints_lst (R.needE h)
theorem sort_lotsT {l : List (List Int)} {u : Unit} (h : R.need (sortOk l) = .ok u) : bifF .sorted [eTup (eTup T.int) l] = some (eLst (eTup T.int) (sortB HT.lexLt l), true) := sort_ints_tup (R.needE h)
theorem sort_gen {α : Type} {c : α → T} (f : α → List Int) (hc : ∀ x, c x = intsT (f x)) (hne : ∀ x, (f x).isEmpty = false) (l : List α) : bifF .sorted [eLst c l] = some (eLst c (sortB (fun x y => HT.lexLt (f x) (f y)) l), true) := by
  have e : ∀ l : List α, l.map c = (l.map f).map intsT := fun l => by
    rw [List.map_map]; exact List.map_congr_left fun x _ => hc x
  show bifF .sorted [.lst (l.map c)] = some (.lst ((sortB _ l).map c), true)
  rw [e, e, sort_ints_lst, sortB_map f (fun _ _ => rfl)]
  unfold sortOk
  rw [Bool.or_eq_true]
  refine .inl (List.all_eq_true.mpr fun ns m => ?_)
  obtain ⟨x, _, rfl⟩ := List.mem_map.mp m
  rw [hne]; rfl
theorem sort_genT {α : Type} {c : α → T} (f : α → List Int) (hc : ∀ x, c x = intsT (f x)) (hne : ∀ x, (f x).isEmpty = false) (l : List α) : bifF .sorted [eTup c l] = some (eLst c (sortB (fun x y => HT.lexLt (f x) (f y)) l), true) := by
  have e : ∀ l : List α, l.map c = (l.map f).map intsT := fun l => by
    rw [List.map_map]; exact List.map_congr_left fun x _ => hc x
  show bifF .sorted [.tup (l.map c)] = some (.lst ((sortB _ l).map c), true)
  rw [e, e, sort_ints_tup, sortB_map f (fun _ _ => rfl)]
  unfold sortOk
  rw [Bool.or_eq_true]
  refine .inl (List.all_eq_true.mpr fun ns m => ?_)
  obtain ⟨x, _, rfl⟩ := List.mem_map.mp m
  rw [hne]; rfl
theorem sort_pairsT (l : List (Int × Int)) : bifF .sorted [eTup (ePair T.int T.int) l] = some (eLst (ePair T.int T.int) (sortP l), true) := by
  have h := sort_genT (c := ePair T.int T.int) toL (fun _ => rfl) (fun _ => rfl) l
  have : (fun x y => HT.lexLt (toL x) (toL y)) = lexP := by
    funext p q; exact lex_pair p.1 p.2 q.1 q.2
  rw [this] at h
  exact h
def sort3 (l : List (Int × Int × Int)) : List (Int × Int × Int) := sortB (fun x y => HT.lexLt [x.1, x.2.1, x.2.2] [y.1, y.2.1, y.2.2]) l
theorem sort_trips (l : List (Int × Int × Int)) : bifF .sorted [eLst (eTrip T.int T.int T.int) l] = some (eLst (eTrip T.int T.int T.int) (sort3 l), true) := sort_gen (c := eTrip T.int T.int T.int) (fun x : Int × Int × Int => [x.1, x.2.1, x.2.2]) (fun _ => rfl) (fun _ => rfl) l
theorem sort_tripsT (l : List (Int × Int × Int)) : bifF .sorted [eTup (eTrip T.int T.int T.int) l] = some (eLst (eTrip T.int T.int T.int) (sort3 l), true) := sort_genT (c := eTrip T.int T.int T.int) (fun x : Int × Int × Int => [x.1, x.2.1, x.2.2]) (fun _ => rfl) (fun _ => rfl) l
end Ev
namespace Ev
section
variable {C : Ctx} {st st1 st2 st3 st4 st5 st6 : List KV}
/-- three at once -/
theorem s_three {t1 t2 t3 : Tg} {a b c : Ex} {x y z : T} {f1 f2 f3 : Bool} (ha : E C st a x f1 st1) (hb : E C st1 b y f2 st2) (hc : E C st2 c z f3 st3) (g1 : ∀ f, (f1 = true → f = true) → G C st3 t1 x (f && isRef x) st4) (g2 : ∀ f, (f2 = true → f = true) → G C st4 t2 y (f && isRef y) st5) (g3 : ∀ f, (f3 = true → f = true) → G C st5 t3 z (f && isRef z) st6) :
    S C st (.asg2 (.cons t1 (.cons t2 (.cons t3 .nil))) (.cons a (.cons b (.cons c .nil)))) (.nx st6) := by
  refine Go.eq evS_asg2 ?_
  intro env i
  obtain ⟨u, e1, h1, hf1, i1⟩ := ha env i
  obtain ⟨v, e2, h2, hf2, i2⟩ := hb e1 i1
  obtain ⟨w, e3, h3, hf3, i3⟩ := hc e2 i2
  obtain ⟨e4, h4, i4⟩ := g1 u hf1 e3 i3
  obtain ⟨e5, h5, i5⟩ := g2 v hf2 e4 i4
  obtain ⟨e6, h6, i6⟩ := g3 w hf3 e5 i5
  refine ⟨e6, bind_ok.mpr ⟨[(x, u), (y, v), (z, w)], e3, ?_, bind_ok.mpr ⟨(), e6, ?_, rfl⟩⟩, i6⟩
  · exact bind_ok.mpr ⟨_, _, h1, bind_ok.mpr ⟨_, _, bind_ok.mpr ⟨_, _, h2, bind_ok.mpr ⟨_, _, bind_ok.mpr ⟨_, _, h3, bind_ok.mpr ⟨_, _, rfl, rfl⟩⟩, rfl⟩⟩, rfl⟩⟩
  · exact bind_ok.mpr ⟨_, _, h4, bind_ok.mpr ⟨_, _, h5, bind_ok.mpr ⟨_, _, h6, rfl⟩⟩⟩
theorem max_tup {l : List Int} {z : Int} (h : R.maxL l = .ok z) : bifF .max [eTup T.int l] = some (.int z, false) := by
  cases l with
  | nil => cases h
  | cons n ns =>
    cases h
    show maxF (.tup _) = _
    unfold maxF
    simp only [intsOf_map]
theorem min_tup {l : List Int} {z : Int} (h : R.minL l = .ok z) : bifF .min [eTup T.int l] = some (.int z, false) := by
  cases l with
  | nil => cases h
  | cons n ns =>
    cases h
    show minF (.tup _) = _
    unfold minF
    simp only [intsOf_map]
end
end Ev

set_option Elab.async false
set_option linter.all false
set_option maxRecDepth 100000
set_option autoImplicit false
/-! the laws' own sameness, of values of any kind -/
namespace Ev
open PySem (PyData)
/-- both are the same, of a nesting below n -/
def sameB : Nat → T → T → Bool
  | 0, _, _ => false
  | n + 1, .tup xs, .tup ys => decide (xs.length = ys.length) && decide (xs.length ≤ LIM) && (xs.zip ys).all fun p => sameB n p.1 p.2
  | _ + 1, .int i, .int j => decide (i = j)
  | _ + 1, .bl i, .bl j => decide (i = j)
  | _ + 1, .non, .non => true
  | _ + 1, .str s, .str t => PyData.strOk s && decide (s = t)
  | _ + 1, .lst xs, .lst ys => datAll 59 xs && datAll 59 ys && T.eqv (.lst xs) (.lst ys)
  | _ + 1, _, _ => false
def R.same (a b : T) : R Bool := if sameB 14 a b then .ok true else .bad
theorem R.sameE {a b : T} {r : Bool} (h : R.same a b = .ok r) : sameB 14 a b = true ∧ true = r := R.ifE h
theorem same_int (n : Nat) (i : Int) : sameB (n + 1) (.int i) (.int i) = true := decide_eq_true rfl
theorem same_bl (n : Nat) (i : Bool) : sameB (n + 1) (.bl i) (.bl i) = true := decide_eq_true rfl
theorem same_non (n : Nat) : sameB (n + 1) .non .non = true := rfl
theorem zip_self {α : Type} : ∀ l : List α, l.zip l = l.map fun x => (x, x)
  | [] => rfl
  | x :: l => by rw [List.zip_cons_cons, zip_self l]; rfl
theorem same_tup {α : Type} {c : α → T} {n : Nat} {l : List α} (h : ∀ x ∈ l, sameB n (c x) (c x) = true) (hl : l.length ≤ LIM) : sameB (n + 1) (eTup c l) (eTup c l) = true := by
  show (decide ((l.map c).length = (l.map c).length) && decide ((l.map c).length ≤ LIM) && ((l.map c).zip (l.map c)).all fun p => sameB n p.1 p.2) = true
  rw [zip_self, List.map_map, List.all_map, decide_eq_true rfl, List.length_map, decide_eq_true hl, Bool.true_and, Bool.true_and]
  exact List.all_eq_true.mpr fun x m => h x m
theorem same_pair {α β : Type} {c : α → T} {d : β → T} {n : Nat} {p : α × β} (h : sameB n (c p.1) (c p.1) = true) (h2 : sameB n (d p.2) (d p.2) = true) : sameB (n + 1) (ePair c d p) (ePair c d p) = true := by
  show (decide (2 = 2) && decide (2 ≤ LIM) && ([(c p.1, c p.1), (d p.2, d p.2)].all fun q => sameB n q.1 q.2)) = true
  simp [h, h2, LIM]
theorem same_trip {α β γ : Type} {c : α → T} {d : β → T} {e : γ → T} {n : Nat} {p : α × β × γ} (h : sameB n (c p.1) (c p.1) = true) (h2 : sameB n (d p.2.1) (d p.2.1) = true) (h3 : sameB n (e p.2.2) (e p.2.2) = true) : sameB (n + 1) (eTrip c d e p) (eTrip c d e p) = true := by
  show (decide (3 = 3) && decide (3 ≤ LIM) && ([(c p.1, c p.1), (d p.2.1, d p.2.1), (e p.2.2, e p.2.2)].all fun q => sameB n q.1 q.2)) = true
  simp [h, h2, h3, LIM]
theorem same_opt {α : Type} {c : α → T} {n : Nat} {o : Option α} (h : ∀ x, o = some x → sameB (n + 1) (c x) (c x) = true) : sameB (n + 1) (eOpt c o) (eOpt c o) = true := by
  cases o with
  | none => rfl
  | some x => exact h x rfl
theorem same_lst {α : Type} [DecidableEq α] {c : α → T} {k n : Nat} (hc : EqE c k) (l : List α) (hk : k ≤ 59 := by decide) : sameB (n + 1) (eLst c l) (eLst c l) = true := by
  show (datAll 59 (l.map c) && datAll 59 (l.map c) && PyData.eqvAll (toDs (l.map c)) (toDs (l.map c))) = true
  rw [datAll_map _ c (fun x => hc.dat _ x hk), eqvAll_map c hc.eqv]
  simp
theorem same_ints {n : Nat} {l : List Int} (hl : l.length ≤ LIM) : sameB (n + 2) (eTup T.int l) (eTup T.int l) = true := same_tup (fun x _ => same_int n x) hl
theorem R.same_ok {a b : T} (h : sameB 14 a b = true) : R.same a b = .ok true := if_pos h
end Ev
namespace Ev
theorem ke {t u : T} (h : t = u) : KLe (.sh t) (.sh u) := h ▸ kr
end Ev

set_option Elab.async false
set_option linter.all false
set_option maxRecDepth 100000
set_option autoImplicit false
/-! a plain function in R ends well -/
namespace Ev
namespace R
def Ok {α : Type} (r : R α) (P : α → Prop) : Prop := ∃ a, r = .ok a ∧ P a
variable {α β γ σ ρ : Type}
theorem Ok.bind {r : R α} {P : α → Prop} {f : α → R β} {Q : β → Prop} (h : Ok r P) (k : ∀ a, P a → Ok (f a) Q) : Ok (r.bind f) Q := by
  obtain ⟨a, rfl, p⟩ := h; exact k a p
theorem Ok.pure {a : α} {P : α → Prop} (h : P a) : Ok (.ok a) P := ⟨a, rfl, h⟩
theorem Ok.mono {r : R α} {P Q : α → Prop} (h : Ok r P) (k : ∀ a, P a → Q a) : Ok r Q := by
  obtain ⟨a, rfl, p⟩ := h; exact ⟨a, rfl, k a p⟩
theorem Ok.of {r : R α} {a : α} {P : α → Prop} (h : r = .ok a) (p : P a) : Ok r P := ⟨a, h, p⟩
theorem Ok.val {r : R α} {a : α} (h : Ok r fun x => x = a) : r = .ok a := by obtain ⟨b, h, rfl⟩ := h; exact h
theorem bindV {r : R α} {a : α} {f : α → R β} {b : β} (h : r = .ok a) (k : f a = .ok b) : r.bind f = .ok b := by rw [h]; exact k
theorem Ok.bindV {r : R α} {a : α} {f : α → R β} {Q : β → Prop} (h : r = .ok a) (k : Ok (f a) Q) : Ok (r.bind f) Q := by rw [h]; exact k
theorem Ok.ite {b : Bool} {x y : R α} {Q : α → Prop} (h1 : b = true → Ok x Q) (h2 : b = false → Ok y Q) : Ok (if b then x else y) Q := by
  cases b with
  | true => exact h1 rfl
  | false => exact h2 rfl
theorem mapR_eq {f : α → R β} {g : α → β} : ∀ {l : List α}, (∀ a ∈ l, f a = .ok (g a)) → mapR f l = .ok (l.map g)
  | [], _ => rfl
  | a :: l, h => by
    unfold mapR
    rw [h a List.mem_cons_self, bind_ok, mapR_eq fun b m => h b (List.mem_cons_of_mem _ m)]; rfl
theorem Ok.mapR {f : α → R β} {Q : β → Prop} : ∀ {l : List α}, (∀ a ∈ l, Ok (f a) Q) → Ok (R.mapR f l) fun ys => ys.length = l.length ∧ ∀ y ∈ ys, Q y
  | [], _ => ⟨[], rfl, rfl, fun _ m => nomatch m⟩
  | a :: l, h => by
    unfold R.mapR
    refine Ok.bind (h a List.mem_cons_self) fun y hy => ?_
    refine Ok.bind (Ok.mapR fun b m => h b (List.mem_cons_of_mem _ m)) fun ys hs => ?_
    refine Ok.pure ⟨by simp [hs.1], fun z m => ?_⟩
    rcases List.mem_cons.mp m with rfl | m
    · exact hy
    · exact hs.2 z m
theorem each_eq {f : α → R (List β)} {g : α → List β} : ∀ {l : List α}, (∀ a ∈ l, f a = .ok (g a)) → each f l = .ok (l.flatMap g)
  | [], _ => rfl
  | a :: l, h => by
    unfold each
    rw [h a List.mem_cons_self, bind_ok, each_eq fun b m => h b (List.mem_cons_of_mem _ m)]; rfl
theorem each_filter {f : α → R (List α)} {p : α → Bool} {l : List α} (h : ∀ a ∈ l, f a = .ok (if p a then [a] else [])) : each f l = .ok (l.filter p) := by
  rw [each_eq h]; congr 1; clear h
  induction l with
  | nil => rfl
  | cons a l ih => rw [List.flatMap_cons, ih, List.filter_cons]; cases p a <;> rfl
theorem each_filterMap {f : α → R (List β)} {p : α → Bool} {g : α → β} {l : List α} (h : ∀ a ∈ l, f a = .ok (if p a then [g a] else [])) : each f l = .ok ((l.filter p).map g) := by
  rw [each_eq h]; congr 1; clear h
  induction l with
  | nil => rfl
  | cons a l ih => rw [List.flatMap_cons, ih, List.filter_cons]; cases p a <;> rfl
theorem Ok.fold {f : σ → α → R σ} (I : σ → Prop) : ∀ {l : List α} {s : σ}, I s → (∀ a ∈ l, ∀ s, I s → Ok (f s a) I) → Ok (R.fold f s l) I
  | [], s, h, _ => ⟨s, rfl, h⟩
  | a :: l, s, h, k => by
    unfold R.fold
    exact Ok.bind (k a List.mem_cons_self s h) fun s' h' => Ok.fold I h' fun b m => k b (List.mem_cons_of_mem _ m)
/-- the invariant knows what is done -/
theorem Ok.foldI {f : σ → α → R σ} (I : List α → σ → Prop) : ∀ {l pre : List α} {s : σ}, I pre s → (∀ a pre s, a ∈ l → I pre s → Ok (f s a) (I (pre ++ [a]))) → Ok (R.fold f s l) (I (pre ++ l))
  | [], pre, s, h, _ => by rw [List.append_nil]; exact ⟨s, rfl, h⟩
  | a :: l, pre, s, h, k => by
    unfold R.fold
    refine Ok.bind (k a pre s List.mem_cons_self h) fun s' h' => ?_
    have := Ok.foldI I (l := l) h' fun b p s m => k b p s (List.mem_cons_of_mem _ m)
    rwa [List.append_assoc] at this
theorem Ok.foldP' {f : σ → α → R σ} (I : List α → σ → Prop) (l : List α) : ∀ (post pre : List α) (s : σ), l = pre ++ post → I pre s → (∀ pre a post s, l = pre ++ a :: post → I pre s → Ok (f s a) (I (pre ++ [a]))) → Ok (R.fold f s post) (I l)
  | [], pre, s, e, h, _ => by rw [e, List.append_nil]; exact ⟨s, rfl, h⟩
  | a :: post, pre, s, e, h, k => by
    unfold R.fold
    refine Ok.bind (k pre a post s e h) fun s' h' => ?_
    exact Ok.foldP' I l post (pre ++ [a]) s' (by rw [e, List.append_assoc]; rfl) h' k
theorem Ok.foldP {f : σ → α → R σ} (I : List α → σ → Prop) {l : List α} {s : σ} (h : I [] s) (k : ∀ pre a post s, l = pre ++ a :: post → I pre s → Ok (f s a) (I (pre ++ [a]))) : Ok (R.fold f s l) (I l) := Ok.foldP' I l l [] s rfl h k
theorem fold_eq {f : σ → α → R σ} {g : σ → α → σ} : ∀ {l : List α} {s : σ}, (∀ a ∈ l, ∀ s, f s a = .ok (g s a)) → R.fold f s l = .ok (l.foldl g s)
  | [], s, _ => rfl
  | a :: l, s, h => by
    unfold R.fold
    rw [h a List.mem_cons_self, bind_ok, fold_eq fun b m => h b (List.mem_cons_of_mem _ m)]; rfl
/-- a loop that never leaves -/
theorem Ok.foldF {f : σ → α → R (Lp ρ σ)} (I : σ → Prop) : ∀ {l : List α} {s : σ}, I s → (∀ a ∈ l, ∀ s, I s → Ok (f s a) fun o => ∃ s', o = .nx s' ∧ I s') → Ok (R.foldF f s l) fun o => ∃ s', o = .nx s' ∧ I s'
  | [], s, h, _ => ⟨_, rfl, s, rfl, h⟩
  | a :: l, s, h, k => by
    unfold R.foldF
    refine Ok.bind (k a List.mem_cons_self s h) fun o ho => ?_
    obtain ⟨s', rfl, h'⟩ := ho
    exact Ok.foldF I h' fun b m => k b (List.mem_cons_of_mem _ m)
theorem Ok.then {o : R (Lp ρ σ)} {I : σ → Prop} {rt : ρ → R β} {nx : σ → R β} {Q : β → Prop} (h : Ok o fun o => ∃ s', o = .nx s' ∧ I s') (k : ∀ s, I s → Ok (nx s) Q) : Ok (o.bind fun o => o.then rt nx) Q :=
  Ok.bind h fun o ⟨s, e, i⟩ => by subst e; exact k s i
theorem Ok.eachS {f : σ → α → R (σ × List β)} (I : σ → Prop) {Q : β → Prop} {n : Nat} : ∀ {l : List α} {s : σ}, I s → (∀ a ∈ l, ∀ s, I s → Ok (f s a) fun x => I x.1 ∧ x.2.length = n ∧ ∀ y ∈ x.2, Q y) → Ok (R.eachS f s l) fun x => I x.1 ∧ x.2.length = n * l.length ∧ ∀ y ∈ x.2, Q y
  | [], s, h, _ => ⟨_, rfl, h, rfl, fun _ m => nomatch m⟩
  | a :: l, s, h, k => by
    unfold R.eachS
    refine Ok.bind (k a List.mem_cons_self s h) fun x hx => ?_
    refine Ok.bind (Ok.eachS I hx.1 fun b m => k b (List.mem_cons_of_mem _ m)) fun y hy => ?_
    refine Ok.pure ⟨hy.1, by rw [List.length_append, hx.2.1, hy.2.1, List.length_cons]; exact (by rw [Nat.mul_succ, Nat.add_comm]), fun z m => ?_⟩
    rcases List.mem_append.mp m with m | m
    · exact hx.2.2 z m
    · exact hy.2.2 z m
/-- the first that answers ends the loop -/
theorem foldF_find {f : Unit → α → R (Lp ρ Unit)} {p : α → Bool} {g : α → ρ} : ∀ {l : List α}, (∀ a ∈ l, f () a = .ok (if p a then .rt (g a) else .nx ())) → R.foldF f () l = .ok (match l.find? p with | Option.some a => Lp.rt (g a) | Option.none => Lp.nx ())
  | [], _ => rfl
  | a :: l, h => by
    unfold R.foldF
    rw [h a List.mem_cons_self, bind_ok, List.find?_cons]
    cases p a with
    | true => rfl
    | false => exact foldF_find fun b m => h b (List.mem_cons_of_mem _ m)
theorem ixN_ok {n : Nat} {i : Int} (h0 : 0 ≤ i) (h : i < n) : L2.ixN n i = Option.some i.toNat := by
  unfold L2.ixN; rw [if_pos h0, if_pos h]
theorem idx_ok {l : List α} {i : Int} {a : α} (h0 : 0 ≤ i) (h : l[i.toNat]? = Option.some a) : R.idx l i = .ok a := by
  have hl : i.toNat < l.length := (List.getElem?_eq_some_iff.mp h).1
  unfold R.idx L2.atI
  rw [ixN_ok h0 (by omega)]
  show R.of l[i.toNat]? = _
  rw [h]; rfl
theorem Ok.idx {l : List α} {i : Int} (h0 : 0 ≤ i) (h : i < l.length) : Ok (R.idx l i) fun x => l[i.toNat]? = Option.some x ∧ x ∈ l := by
  have hl : i.toNat < l.length := by omega
  exact ⟨l[i.toNat], idx_ok h0 (List.getElem?_eq_getElem hl), List.getElem?_eq_getElem hl, List.getElem_mem hl⟩
theorem setI_ok {l : List α} {i : Int} {x : α} (h0 : 0 ≤ i) (h : i < l.length) : R.setI l i x = .ok (l.set i.toNat x) := by
  unfold R.setI
  rw [ixN_ok h0 h]; rfl
theorem rng_ok {a b : Int} (h : -1000000 ≤ a ∧ a ≤ 1000000 ∧ -1000000 ≤ b ∧ b ≤ 1000000) : R.rng a b = .ok (irange a b) := by
  unfold R.rng; rw [if_pos]; exact decide_eq_true h
theorem cap_ok {l : List α} (h : l.length ≤ 1000000) : R.cap l = .ok () := by
  unfold R.cap need; rw [if_pos (decide_eq_true (by unfold LIM; exact h))]
theorem cat_ok {l m : List α} (h : l.length + m.length ≤ 1000000) : R.cat l m = .ok (l ++ m) := by
  unfold R.cat; rw [if_pos (decide_eq_true (by unfold LIM; exact h))]
theorem app_ok {l : List α} {x : α} (h : l.length < 1000000) : R.app l x = .ok (l ++ [x]) := by
  unfold R.app; rw [if_pos (decide_eq_true (by unfold LIM; exact h))]
theorem mul_ok' {i j : Int} (h : i.natAbs < 2 ^ 64 ∨ j.natAbs < 2 ^ 64) : R.mul i j = .ok (i * j) := by
  unfold R.mul mulOk; rw [if_pos]
  rcases h with h | h
  · rw [decide_eq_true h]; rfl
  · rw [decide_eq_true h]; simp
theorem mod_ok' {i j : Int} (h : 0 < j) : R.mod i j = .ok (i % j) := by
  unfold R.mod; rw [if_pos (decide_eq_true h)]
theorem dvm_ok {i j : Int} (h : 0 < j) (h1 : j < 2 ^ 20) : R.dvm i j = .ok (i / j, i % j) := by
  unfold R.dvm; rw [if_pos (decide_eq_true ⟨h, h1⟩)]
theorem need_ok {b : Bool} (h : b = true) : R.need b = .ok () := by unfold need; rw [if_pos h]
end R
theorem mem_irange {a b i : Int} : i ∈ irange a b ↔ a ≤ i ∧ i < b := by
  unfold irange
  rw [List.mem_map]
  constructor
  · rintro ⟨j, hj, rfl⟩
    have := List.mem_range.mp hj
    omega
  · rintro ⟨h1, h2⟩
    exact ⟨(i - a).toNat, List.mem_range.mpr (by omega), by omega⟩
theorem length_irange (a b : Int) : (irange a b).length = (b - a).toNat := by unfold irange; rw [List.length_map, List.length_range]
theorem irange_get {a b : Int} {k : Nat} (h : (k : Int) < b - a) : (irange a b)[k]? = some (a + k) := by
  unfold irange
  rw [List.getElem?_map, List.getElem?_range (by omega)]; rfl
/-! ### slices -/
theorem cutA_to {α : Type} (l : List α) {k : Int} (h : 0 ≤ k) : cutA l none (some k) = l.take k.toNat := by
  obtain ⟨j, rfl⟩ := Int.eq_ofNat_of_zero_le h
  show (l.drop 0).take (HT.sIx l.length l.length (some (j : Int)) - 0) = _
  rw [HT.sIx_nat, List.drop_zero, Nat.sub_zero, Int.toNat_natCast]
  rcases Nat.le_total j l.length with h | h
  · rw [Nat.min_eq_left h]
  · rw [Nat.min_eq_right h, List.take_length, List.take_of_length_le h]
theorem cutA_from {α : Type} (l : List α) {k : Int} (h : 0 ≤ k) : cutA l (some k) none = l.drop k.toNat := by
  obtain ⟨j, rfl⟩ := Int.eq_ofNat_of_zero_le h
  show (l.drop (HT.sIx l.length 0 (some (j : Int)))).take (l.length - HT.sIx l.length 0 (some (j : Int))) = _
  rw [HT.sIx_nat, Int.toNat_natCast]
  rcases Nat.le_total j l.length with h | h
  · rw [Nat.min_eq_left h, List.take_of_length_le (by rw [List.length_drop]; omega)]
  · rw [Nat.min_eq_right h, Nat.sub_self, List.take_zero, List.drop_eq_nil_of_le h]
theorem put_eq {α : Type} {l : List α} {i : Nat} {x : α} (h : i < l.length) : l.take i ++ [x] ++ l.drop (i + 1) = l.set i x := by
  rw [List.set_eq_take_append_cons_drop, if_pos h, List.append_assoc]; rfl
/-! ### looking at numbers by int -/
def getZ (l : List Int) (i : Int) : Int := l.getD i.toNat 0
theorem getZ_idx {l : List Int} {i : Int} (h0 : 0 ≤ i) (h : i < l.length) : R.idx l i = .ok (getZ l i) := by
  refine R.idx_ok h0 ?_
  have hl : i.toNat < l.length := by omega
  unfold getZ
  rw [List.getD_eq_getElem?_getD, List.getElem?_eq_getElem hl]; rfl
theorem getZ_mem {l : List Int} {i : Int} (h0 : 0 ≤ i) (h : i < l.length) : getZ l i ∈ l := by
  have hl : i.toNat < l.length := by omega
  unfold getZ
  rw [List.getD_eq_getElem?_getD, List.getElem?_eq_getElem hl]; exact List.getElem_mem hl
theorem getZ_set {l : List Int} {i j : Nat} {v : Int} (h : i < l.length) : getZ (l.set i v) (j : Int) = if i = j then v else getZ l (j : Int) := by
  unfold getZ
  rw [Int.toNat_natCast, List.getD_eq_getElem?_getD, List.getElem?_set, List.getD_eq_getElem?_getD]
  by_cases e : i = j
  · subst e; rw [if_pos rfl, if_pos rfl, if_pos h]; rfl
  · rw [if_neg e, if_neg e]
theorem mem_set' {α : Type} {l : List α} {i : Nat} {v x : α} (h : x ∈ l.set i v) : x ∈ l ∨ x = v := List.mem_or_eq_of_mem_set h
theorem ixof_ok {α : Type} [DecidableEq α] {l : List α} {x : α} (h : x ∈ l) : R.Ok (R.ixof l x) fun k => 0 ≤ k ∧ k < l.length ∧ l[k.toNat]? = some x := by
  unfold R.ixof
  cases e : l.findIdx? fun z => decide (z = x) with
  | none =>
    have := List.findIdx?_eq_none_iff.mp e x h
    simp at this
  | some k =>
    obtain ⟨h1, h2, _⟩ := List.findIdx?_eq_some_iff_getElem.mp e
    refine ⟨(k : Int), rfl, by omega, by omega, ?_⟩
    rw [Int.toNat_natCast, List.getElem?_eq_getElem h1]
    exact congrArg some (of_decide_eq_true h2)
theorem swap_mem {α : Type} {l : List α} {i j : Nat} {x y z : α} (hi : l[i]? = some x) (hj : l[j]? = some y) (h : z ∈ l) : z ∈ (l.set i y).set j x := by
  obtain ⟨k, hk, rfl⟩ := List.getElem_of_mem h
  have li : i < l.length := (List.getElem?_eq_some_iff.mp hi).1
  have lj : j < l.length := (List.getElem?_eq_some_iff.mp hj).1
  by_cases e1 : k = i
  · subst e1
    have : l[k] = x := by rw [List.getElem?_eq_getElem hk] at hi; exact Option.some.inj hi
    rw [this]
    exact List.mem_iff_getElem?.mpr ⟨j, by rw [List.getElem?_set]; simp [lj]⟩
  · by_cases e2 : k = j
    · subst e2
      have : l[k] = y := by rw [List.getElem?_eq_getElem hk] at hj; exact Option.some.inj hj
      rw [this]
      exact List.mem_iff_getElem?.mpr ⟨i, by rw [List.getElem?_set, if_neg e1, List.getElem?_set]; simp [li]⟩
    · exact List.mem_iff_getElem?.mpr ⟨k, by rw [List.getElem?_set, if_neg (Ne.symm e2), List.getElem?_set, if_neg (Ne.symm e1), List.getElem?_eq_getElem hk]⟩
theorem R.then_ok {α ρ σ β : Type} {o : R (R.Lp ρ σ)} {s : σ} {rt : ρ → R β} {nx : σ → R β} {b : β} (h : o = .ok (.nx s)) (k : nx s = .ok b) : (o.bind fun o => o.then rt nx) = .ok b := by rw [h]; exact k
def R.chk {α : Type} (r : R α) (p : α → Bool) : Bool := match r with
  | .ok a => p a
  | _ => false
theorem R.chkE {α : Type} {r : R α} {p : α → Bool} (h : R.chk r p = true) : R.Ok r fun a => p a = true := by
  cases r with
  | ok a => exact ⟨a, rfl, h⟩
  | ex c t => exact nomatch h
  | bad => exact nomatch h
theorem R.chkP {α : Type} {r : R α} {p : α → Prop} [DecidablePred p] (h : R.chk r (fun a => decide (p a)) = true) : R.Ok r p := (R.chkE h).mono fun _ q => of_decide_eq_true q
theorem R.valK {α : Type} [DecidableEq α] {r : R α} {b : α} (h : R.chk r (fun o => decide (o = b)) = true) : r = .ok b := (R.chkP h).val
theorem sum_map_le {α : Type} {f g : α → Int} : ∀ {l : List α}, (∀ a ∈ l, f a ≤ g a) → (l.map f).sum ≤ (l.map g).sum
  | [], _ => Int.le_refl _
  | a :: l, h => by
    rw [List.map_cons, List.map_cons, List.sum_cons, List.sum_cons]
    exact Int.add_le_add (h a List.mem_cons_self) (sum_map_le fun b m => h b (List.mem_cons_of_mem _ m))
theorem sum_map_lift {α : Type} {f g : α → Int} {k : Int} {x : α} : ∀ {l : List α}, (∀ a ∈ l, f a ≤ g a) → x ∈ l → g x = f x + k → (l.map f).sum + k ≤ (l.map g).sum
  | a :: l, h, hm, e => by
    rw [List.map_cons, List.map_cons, List.sum_cons, List.sum_cons]
    rcases List.mem_cons.mp hm with rfl | hm
    · have := sum_map_le (f := f) (g := g) (l := l) fun b m => h b (List.mem_cons_of_mem _ m)
      omega
    · have := sum_map_lift (l := l) (fun b m => h b (List.mem_cons_of_mem _ m)) hm e
      have := h a List.mem_cons_self
      omega
theorem sum_nonneg {l : List Int} (h : ∀ x ∈ l, 0 ≤ x) : 0 ≤ l.sum := by
  induction l with
  | nil => exact Int.le_refl _
  | cons a l ih =>
    rw [List.sum_cons]
    have := h a List.mem_cons_self
    have := ih fun x m => h x (List.mem_cons_of_mem _ m)
    omega
end Ev

set_option Elab.async false
set_option linter.all false
set_option maxRecDepth 100000
set_option autoImplicit false
/-! the laws' own likeness (k40 to k59) -/
namespace Ev
open PySem (PyData)
def aliB : Nat → T → T → Bool
  | 0, _, _ => false
  | n + 1, .tup xs, .tup ys => decide (xs.length = ys.length) && decide (xs.length ≤ LIM) && (xs.zip ys).all fun p => aliB n p.1 p.2
  | n + 1, .lst xs, .lst ys => decide (xs.length = ys.length) && decide (xs.length ≤ LIM) && (xs.zip ys).all fun p => aliB n p.1 p.2
  | _ + 1, .int i, .int j => decide (i = j)
  | _ + 1, .bl i, .bl j => decide (i = j)
  | _ + 1, .non, .non => true
  | _ + 1, .str s, .str t => PyData.strOk s && decide (s = t)
  | _ + 1, _, _ => false
def R.ali (a b : T) : R Bool := if aliB 14 a b then .ok true else .bad
theorem R.aliE {a b : T} {r : Bool} (h : R.ali a b = .ok r) : aliB 14 a b = true ∧ true = r := R.ifE h
theorem R.ali_ok {a b : T} (h : aliB 14 a b = true) : R.ali a b = .ok true := if_pos h
theorem ali_int (n : Nat) (i : Int) : aliB (n + 1) (.int i) (.int i) = true := decide_eq_true rfl
theorem ali_bl (n : Nat) (i : Bool) : aliB (n + 1) (.bl i) (.bl i) = true := decide_eq_true rfl
theorem ali_non (n : Nat) : aliB (n + 1) .non .non = true := rfl
theorem ali_tupT {n : Nat} {l : List T} (h : ∀ x ∈ l, aliB n x x = true) (hl : l.length ≤ LIM) : aliB (n + 1) (.tup l) (.tup l) = true := by
  show (decide (l.length = l.length) && decide (l.length ≤ LIM) && (l.zip l).all fun p => aliB n p.1 p.2) = true
  rw [zip_self, List.all_map, decide_eq_true rfl, decide_eq_true hl, Bool.true_and, Bool.true_and]
  exact List.all_eq_true.mpr fun x m => h x m
theorem ali_lstT {n : Nat} {l : List T} (h : ∀ x ∈ l, aliB n x x = true) (hl : l.length ≤ LIM) : aliB (n + 1) (.lst l) (.lst l) = true := by
  show (decide (l.length = l.length) && decide (l.length ≤ LIM) && (l.zip l).all fun p => aliB n p.1 p.2) = true
  rw [zip_self, List.all_map, decide_eq_true rfl, decide_eq_true hl, Bool.true_and, Bool.true_and]
  exact List.all_eq_true.mpr fun x m => h x m
theorem ali_tup {α : Type} {c : α → T} {n : Nat} {l : List α} (h : ∀ x ∈ l, aliB n (c x) (c x) = true) (hl : l.length ≤ LIM) : aliB (n + 1) (eTup c l) (eTup c l) = true :=
  ali_tupT (fun x m => by obtain ⟨y, hy, rfl⟩ := List.mem_map.mp m; exact h y hy) (by rwa [List.length_map])
theorem ali_lst {α : Type} {c : α → T} {n : Nat} {l : List α} (h : ∀ x ∈ l, aliB n (c x) (c x) = true) (hl : l.length ≤ LIM) : aliB (n + 1) (eLst c l) (eLst c l) = true :=
  ali_lstT (fun x m => by obtain ⟨y, hy, rfl⟩ := List.mem_map.mp m; exact h y hy) (by rwa [List.length_map])
theorem ali_pair {α β : Type} {c : α → T} {d : β → T} {n : Nat} {p : α × β} (h : aliB n (c p.1) (c p.1) = true) (h2 : aliB n (d p.2) (d p.2) = true) : aliB (n + 1) (ePair c d p) (ePair c d p) = true :=
  ali_tupT (fun x m => by simp at m; rcases m with rfl | rfl <;> assumption) (by unfold LIM; simp)
theorem ali_trip {α β γ : Type} {c : α → T} {d : β → T} {e : γ → T} {n : Nat} {p : α × β × γ} (h : aliB n (c p.1) (c p.1) = true) (h2 : aliB n (d p.2.1) (d p.2.1) = true) (h3 : aliB n (e p.2.2) (e p.2.2) = true) : aliB (n + 1) (eTrip c d e p) (eTrip c d e p) = true :=
  ali_tupT (fun x m => by simp at m; rcases m with rfl | rfl | rfl <;> assumption) (by unfold LIM; simp)
theorem ali_ints {n : Nat} {l : List Int} (hl : l.length ≤ LIM) : aliB (n + 2) (eTup T.int l) (eTup T.int l) = true := ali_tup (fun x _ => ali_int n x) hl
theorem ali_opt {α : Type} {c : α → T} {n : Nat} {o : Option α} (h : ∀ x, o = some x → aliB (n + 1) (c x) (c x) = true) : aliB (n + 1) (eOpt c o) (eOpt c o) = true := by
  cases o with
  | none => rfl
  | some x => exact h x rfl
theorem rng_len2 {α : Type} {xs : List α} (h2 : xs.length ≤ LIM) : R.rng 0 (xs.length : Int) = .ok (irange 0 xs.length) := by
  unfold R.rng
  rw [if_pos]
  refine decide_eq_true ⟨?_, ?_, ?_, ?_⟩ <;> (unfold LIM at *; omega)
theorem ali_row (n : Nat) : R.mapR (β := Bool) (fun i : Int => if decide (0 ≤ i ∧ i < (n : Int)) then .ok true else .bad) (irange 0 n) = .ok (List.replicate n true) := by
  rw [R.mapR_eq (g := fun _ => true) fun a m => if_pos (decide_eq_true (mem_irange.mp m))]
  congr 1
  rw [List.map_const', length_irange]; congr 1
theorem atI_nat {α : Type} {xs : List α} {j : Nat} (hj : j < xs.length) : L2.atI xs (j : Int) = some xs[j] := by
  unfold L2.atI L2.ixN
  rw [if_pos (by omega), if_pos (by omega)]
  simp [hj]
theorem zip_at {α β : Type} {xs : List α} {ys : List β} {j : Nat} (hj : j < xs.length) (hj2 : j < ys.length) : (xs[j], ys[j]) ∈ xs.zip ys := by
  rw [List.mem_iff_getElem?]
  exact ⟨j, by rw [List.getElem?_zip_eq_some]; exact ⟨List.getElem?_eq_getElem hj, List.getElem?_eq_getElem hj2⟩⟩
theorem blsOf_true : ∀ n : Nat, blsOf ((List.replicate n true).map T.bl) = some (List.replicate n true)
  | 0 => rfl
  | n + 1 => by
    show (blsOf ((List.replicate n true).map T.bl)).map _ = _
    rw [blsOf_true n]; rfl
theorem all_true (n : Nat) : bifF .all [eLst T.bl (List.replicate n true)] = some (.bl true, false) := by
  show (blsOf ((List.replicate n true).map T.bl)).map _ = _
  rw [blsOf_true]
  show some (T.bl ((List.replicate n true).all id), false) = _
  rw [List.all_eq_true.mpr fun x m => by rw [List.eq_of_mem_replicate m]; rfl]
theorem eq_str {s : PySem.Str} (h1 : PyData.strOk s = true) : cmpF .eq (.str s) (.str s) = some true := by
  show eqT _ _ = _
  unfold eqT
  have hd : (T.str s).dat 60 = true := h1
  rw [hd]
  show (if (true && true) = true then some (PyData.eqv (.str s) (.str s)) else none) = _
  have : PyData.eqv (.str s) (.str s) = true := by unfold PyData.eqv; exact beq_self_eq_true s
  rw [this]; rfl
end Ev

set_option Elab.async false
set_option linter.all false
set_option maxRecDepth 100000
set_option maxHeartbeats 4000000
set_option autoImplicit false
namespace G51
open Ev
open Ev.R (Lp)
open PySem (Str PyData)
abbrev WH : Nat := 1000
def p_Llaw_alike (a b : T) : R Bool := R.ali a b
theorem alike_walk : ∀ (k n : Nat) (a b : T), aliB k a b = true → Cal (ctx prog WH (n + k)) f_Llaw_alike [a, b] (.bl true) false none
  | 0, n, a, b, h => by cases h
  | k + 1, n, .tup xs, .tup ys, h => by
    have h : (decide (xs.length = ys.length) && decide (xs.length ≤ LIM) && (xs.zip ys).all fun p => aliB k p.1 p.2) = true := h
    simp only [Bool.and_eq_true, decide_eq_true_eq] at h
    obtain ⟨⟨h1, h2⟩, h3⟩ := h
    have hl := rng_len2 h2
    have hr : R.mapR (β := Bool) (fun i : Int => if decide (0 ≤ i ∧ i < (xs.length : Int)) then .ok true else .bad) (irange 0 xs.length) = .ok (List.replicate xs.length true) := ali_row _
    refine cal_rt (d := d_Llaw_alike) (st0 := [.sh (.tup xs), .sh (.tup ys), .un]) (st := [.sh (.tup xs), .sh (.tup ys), .un]) rfl rfl rfl (show SS _ _ _ (.rt (.bl true) false _) from ss_cons (s_if (p := false) (t_or' (p := false) (q := false) (t_e (e_isi (os_var (.sh rfl) os_nil (.sh rfl)) rfl) rfl rfl) (fun _ => (t_e (e_isi (os_var (.sh rfl) os_nil (.sh rfl)) rfl) rfl rfl))) rfl (ss_nil wr)) (ss_cons (s_if (p := false) (t_or' (p := false) (q := false) (t_e (e_isi (os_var (.sh rfl) os_nil (.sh rfl)) rfl) rfl rfl) (fun _ => (t_e (e_isi (os_var (.sh rfl) os_nil (.sh rfl)) rfl) rfl rfl))) rfl (ss_nil wr)) (ss_cons (s_if (p := false) (t_or' (p := false) (q := false) (t_e (e_isi (os_var (.sh rfl) os_nil (.sh rfl)) rfl) rfl rfl) (fun _ => (t_e (e_isi (os_var (.sh rfl) os_nil (.sh rfl)) rfl) rfl rfl))) rfl (ss_nil wr)) (ss_cons (s_if (p := false) (t_or' (p := false) (q := false) (t_e (e_cmp (os_var (.sh rfl) (os_val e_k rfl os_nil) (.sh rfl)) rfl) rfl rfl) (fun _ => (t_e (e_cmp (os_var (.sh rfl) (os_val e_k rfl os_nil) (.sh rfl)) rfl) rfl rfl))) rfl (ss_nil wr)) (ss_cons (s_if (p := false) (t_or' (p := false) (q := false) (t_e (e_isi (os_var (.sh rfl) os_nil (.sh rfl)) rfl) rfl rfl) (fun _ => (t_e (e_isi (os_var (.sh rfl) os_nil (.sh rfl)) rfl) rfl rfl))) rfl (ss_nil wr)) (ss_cons (s_if (p := false) (t_or' (p := false) (q := false) (t_e (e_cmp (os_val (t := .bl true) (e_isi (os_var (.sh rfl) os_nil (.sh rfl)) rfl) rfl (os_val (t := .bl true) (e_isi (os_var (.sh rfl) os_nil (.sh rfl)) rfl) rfl os_nil)) rfl) rfl rfl) (fun _ => (t_e (e_cmp (os_val (t := .bl false) (e_isi (os_var (.sh rfl) os_nil (.sh rfl)) rfl) rfl (os_val (t := .bl false) (e_isi (os_var (.sh rfl) os_nil (.sh rfl)) rfl) rfl os_nil)) rfl) rfl rfl))) rfl (ss_nil wr)) (ss_cons (s_if (p := false) (t_or' (p := false) (q := false) (Tt.to (t_not (b := true) (t_e (e_isi (os_var (.sh rfl) os_nil (.sh rfl)) rfl) rfl rfl)) rfl) (fun _ => (t_e (e_cmp (p := false) (os_val (t := .int xs.length) (e_bif (os_var (.sh rfl) os_nil (.sh rfl)) rfl) rfl (os_val (t := .int xs.length) (e_bif (os_var (.sh rfl) os_nil (.sh rfl)) (by rw [h1]; rfl)) rfl os_nil)) (by rw [ne_op eqInt _ _ (by decide), decide_eq_true rfl]; rfl)) rfl rfl))) rfl (ss_nil wr)) (ss_rt (s_retn (e_bif (os_val (t := eLst T.bl (List.replicate xs.length true)) (e_compM (c := T.int) (d := T.bl) hr (i_r1 (os_val (e_bif (os_var (.sh rfl) os_nil (.sh rfl)) rfl) rfl os_nil) (rng_op hl)) rfl (fun i y hy => ?_) (by rw [List.length_replicate]; exact h2)) rfl os_nil) (all_true _)) rfl))))))))) rfl
    obtain ⟨hi, rfl⟩ := R.ifE hy
    obtain ⟨i0, i1⟩ := of_decide_eq_true hi
    obtain ⟨j, rfl⟩ := Int.eq_ofNat_of_zero_le i0
    have hj : j < xs.length := by omega
    have hj2 : j < ys.length := by omega
    have e1 : idxT (.tup xs) (.int (j : Int)) = some xs[j] := atI_nat hj
    have e2 : idxT (.tup ys) (.int (j : Int)) = some ys[j] := atI_nat hj2
    have hs : aliB k xs[j] ys[j] = true := List.all_eq_true.mp h3 _ (zip_at hj hj2)
    have ih := alike_walk k n xs[j] ys[j] hs
    exact trnT (g_nm rfl) ts_nil rfl (e_call rfl (es_cons (e_idx (os_var (.sh rfl) (os_var (.sh rfl) os_nil (.sh rfl)) (.sh rfl)) e1) (es_cons (e_idx (os_var (.sh rfl) (os_var (.sh rfl) os_nil (.sh rfl)) (.sh rfl)) e2) es_nil)) ih) rfl
  | k + 1, n, .lst xs, .lst ys, h => by
    have h : (decide (xs.length = ys.length) && decide (xs.length ≤ LIM) && (xs.zip ys).all fun p => aliB k p.1 p.2) = true := h
    simp only [Bool.and_eq_true, decide_eq_true_eq] at h
    obtain ⟨⟨h1, h2⟩, h3⟩ := h
    have hl := rng_len2 h2
    have hr : R.mapR (β := Bool) (fun i : Int => if decide (0 ≤ i ∧ i < (xs.length : Int)) then .ok true else .bad) (irange 0 xs.length) = .ok (List.replicate xs.length true) := ali_row _
    refine cal_rt (d := d_Llaw_alike) (st0 := [.sh (.lst xs), .sh (.lst ys), .un]) (st := [.sh (.lst xs), .sh (.lst ys), .un]) rfl rfl rfl (show SS _ _ _ (.rt (.bl true) false _) from ss_cons (s_if (p := false) (t_or' (p := false) (q := false) (t_e (e_isi (os_var (.sh rfl) os_nil (.sh rfl)) rfl) rfl rfl) (fun _ => (t_e (e_isi (os_var (.sh rfl) os_nil (.sh rfl)) rfl) rfl rfl))) rfl (ss_nil wr)) (ss_cons (s_if (p := false) (t_or' (p := false) (q := false) (t_e (e_isi (os_var (.sh rfl) os_nil (.sh rfl)) rfl) rfl rfl) (fun _ => (t_e (e_isi (os_var (.sh rfl) os_nil (.sh rfl)) rfl) rfl rfl))) rfl (ss_nil wr)) (ss_cons (s_if (p := false) (t_or' (p := false) (q := false) (t_e (e_isi (os_var (.sh rfl) os_nil (.sh rfl)) rfl) rfl rfl) (fun _ => (t_e (e_isi (os_var (.sh rfl) os_nil (.sh rfl)) rfl) rfl rfl))) rfl (ss_nil wr)) (ss_cons (s_if (p := false) (t_or' (p := false) (q := false) (t_e (e_cmp (os_var (.sh rfl) (os_val e_k rfl os_nil) (.sh rfl)) rfl) rfl rfl) (fun _ => (t_e (e_cmp (os_var (.sh rfl) (os_val e_k rfl os_nil) (.sh rfl)) rfl) rfl rfl))) rfl (ss_nil wr)) (ss_cons (s_if (p := false) (t_or' (p := false) (q := false) (t_e (e_isi (os_var (.sh rfl) os_nil (.sh rfl)) rfl) rfl rfl) (fun _ => (t_e (e_isi (os_var (.sh rfl) os_nil (.sh rfl)) rfl) rfl rfl))) rfl (ss_nil wr)) (ss_cons (s_if (p := false) (t_or' (p := false) (q := false) (t_e (e_cmp (os_val (t := .bl false) (e_isi (os_var (.sh rfl) os_nil (.sh rfl)) rfl) rfl (os_val (t := .bl false) (e_isi (os_var (.sh rfl) os_nil (.sh rfl)) rfl) rfl os_nil)) rfl) rfl rfl) (fun _ => (t_e (e_cmp (os_val (t := .bl true) (e_isi (os_var (.sh rfl) os_nil (.sh rfl)) rfl) rfl (os_val (t := .bl true) (e_isi (os_var (.sh rfl) os_nil (.sh rfl)) rfl) rfl os_nil)) rfl) rfl rfl))) rfl (ss_nil wr)) (ss_cons (s_if (p := false) (t_or' (p := false) (q := false) (Tt.to (t_not (b := true) (t_e (e_isi (os_var (.sh rfl) os_nil (.sh rfl)) rfl) rfl rfl)) rfl) (fun _ => (t_e (e_cmp (p := false) (os_val (t := .int xs.length) (e_bif (os_var (.sh rfl) os_nil (.sh rfl)) rfl) rfl (os_val (t := .int xs.length) (e_bif (os_var (.sh rfl) os_nil (.sh rfl)) (by rw [h1]; rfl)) rfl os_nil)) (by rw [ne_op eqInt _ _ (by decide), decide_eq_true rfl]; rfl)) rfl rfl))) rfl (ss_nil wr)) (ss_rt (s_retn (e_bif (os_val (t := eLst T.bl (List.replicate xs.length true)) (e_compM (c := T.int) (d := T.bl) hr (i_r1 (os_val (e_bif (os_var (.sh rfl) os_nil (.sh rfl)) rfl) rfl os_nil) (rng_op hl)) rfl (fun i y hy => ?_) (by rw [List.length_replicate]; exact h2)) rfl os_nil) (all_true _)) rfl))))))))) rfl
    obtain ⟨hi, rfl⟩ := R.ifE hy
    obtain ⟨i0, i1⟩ := of_decide_eq_true hi
    obtain ⟨j, rfl⟩ := Int.eq_ofNat_of_zero_le i0
    have hj : j < xs.length := by omega
    have hj2 : j < ys.length := by omega
    have e1 : idxT (.lst xs) (.int (j : Int)) = some xs[j] := atI_nat hj
    have e2 : idxT (.lst ys) (.int (j : Int)) = some ys[j] := atI_nat hj2
    have hs : aliB k xs[j] ys[j] = true := List.all_eq_true.mp h3 _ (zip_at hj hj2)
    have ih := alike_walk k n xs[j] ys[j] hs
    exact trnT (g_nm rfl) ts_nil rfl (e_call rfl (es_cons (e_idx (os_var (.sh rfl) (os_var (.sh rfl) os_nil (.sh rfl)) (.sh rfl)) e1) (es_cons (e_idx (os_var (.sh rfl) (os_var (.sh rfl) os_nil (.sh rfl)) (.sh rfl)) e2) es_nil)) ih) rfl
  | k + 1, n, .int i, .int j, h => by
    have h : decide (i = j) = true := h
    obtain rfl := of_decide_eq_true h
    refine cal_rt (d := d_Llaw_alike) (st0 := [.sh (.int i), .sh (.int i), .un]) (st := [.sh (.int i), .sh (.int i), .un]) rfl rfl rfl (show SS _ _ _ (.rt (.bl true) false _) from ss_cons (s_if (p := false) (t_or' (p := false) (q := false) (t_e (e_isi (os_var (.sh rfl) os_nil (.sh rfl)) rfl) rfl rfl) (fun _ => (t_e (e_isi (os_var (.sh rfl) os_nil (.sh rfl)) rfl) rfl rfl))) rfl (ss_nil wr)) (ss_rt (s_it (p := true) (t_or' (p := true) (q := true) (t_e (e_isi (os_var (.sh rfl) os_nil (.sh rfl)) rfl) rfl rfl) (fun _ => (t_e (e_isi (os_var (.sh rfl) os_nil (.sh rfl)) rfl) rfl rfl))) rfl (ss_rt (s_retn (e_and (t := .bl true) (p := true) (e_isi (os_var (.sh rfl) os_nil (.sh rfl)) rfl) (fun _ => e_and (t := .bl true) (p := true) (e_isi (os_var (.sh rfl) os_nil (.sh rfl)) rfl) (fun _ => e_cmp (os_var (.sh rfl) (os_var (.sh rfl) os_nil (.sh rfl)) (.sh rfl)) (by rw [eq_op eqInt _ _ (by decide), decide_eq_true rfl])) (fun z => nomatch z)) (fun z => nomatch z)) rfl))))) rfl
  | k + 1, n, .bl i, .bl j, h => by
    have h : decide (i = j) = true := h
    obtain rfl := of_decide_eq_true h
    refine cal_rt (d := d_Llaw_alike) (st0 := [.sh (.bl i), .sh (.bl i), .un]) (st := [.sh (.bl i), .sh (.bl i), .un]) rfl rfl rfl (show SS _ _ _ (.rt (.bl true) false _) from ss_rt (s_it (p := true) (t_or' (p := true) (q := true) (t_e (e_isi (os_var (.sh rfl) os_nil (.sh rfl)) rfl) rfl rfl) (fun _ => (t_e (e_isi (os_var (.sh rfl) os_nil (.sh rfl)) rfl) rfl rfl))) rfl (ss_rt (s_retn (e_and (t := .bl true) (p := true) (e_isi (os_var (.sh rfl) os_nil (.sh rfl)) rfl) (fun _ => e_and (t := .bl true) (p := true) (e_isi (os_var (.sh rfl) os_nil (.sh rfl)) rfl) (fun _ => e_cmp (os_var (.sh rfl) (os_var (.sh rfl) os_nil (.sh rfl)) (.sh rfl)) (by rw [eq_op eqBl _ _ (by decide), decide_eq_true rfl])) (fun z => nomatch z)) (fun z => nomatch z)) rfl)))) rfl
  | k + 1, n, .non, .non, h => by
    skip
    refine cal_rt (d := d_Llaw_alike) (st0 := [.sh (.non), .sh (.non), .un]) (st := [.sh (.non), .sh (.non), .un]) rfl rfl rfl (show SS _ _ _ (.rt (.bl true) false _) from ss_cons (s_if (p := false) (t_or' (p := false) (q := false) (t_e (e_isi (os_var (.sh rfl) os_nil (.sh rfl)) rfl) rfl rfl) (fun _ => (t_e (e_isi (os_var (.sh rfl) os_nil (.sh rfl)) rfl) rfl rfl))) rfl (ss_nil wr)) (ss_cons (s_if (p := false) (t_or' (p := false) (q := false) (t_e (e_isi (os_var (.sh rfl) os_nil (.sh rfl)) rfl) rfl rfl) (fun _ => (t_e (e_isi (os_var (.sh rfl) os_nil (.sh rfl)) rfl) rfl rfl))) rfl (ss_nil wr)) (ss_cons (s_if (p := false) (t_or' (p := false) (q := false) (t_e (e_isi (os_var (.sh rfl) os_nil (.sh rfl)) rfl) rfl rfl) (fun _ => (t_e (e_isi (os_var (.sh rfl) os_nil (.sh rfl)) rfl) rfl rfl))) rfl (ss_nil wr)) (ss_rt (s_it (p := true) (t_or' (p := true) (q := true) (t_e (e_cmp (os_var (.sh rfl) (os_val e_k rfl os_nil) (.sh rfl)) rfl) rfl rfl) (fun _ => (t_e (e_cmp (os_var (.sh rfl) (os_val e_k rfl os_nil) (.sh rfl)) rfl) rfl rfl))) rfl (ss_rt (s_retn (e_and (t := .bl true) (p := true) (e_cmp (os_var (.sh rfl) (os_val e_k rfl os_nil) (.sh rfl)) rfl) (fun _ => e_cmp (os_var (.sh rfl) (os_val e_k rfl os_nil) (.sh rfl)) rfl) (fun z => nomatch z)) rfl))))))) rfl
  | k + 1, n, .str s, .str t, h => by
    have h : (PyData.strOk s && decide (s = t)) = true := h
    simp only [Bool.and_eq_true, decide_eq_true_eq] at h
    obtain ⟨h1, rfl⟩ := h
    have e := eq_str h1
    refine cal_rt (d := d_Llaw_alike) (st0 := [.sh (.str s), .sh (.str s), .un]) (st := [.sh (.str s), .sh (.str s), .un]) rfl rfl rfl (show SS _ _ _ (.rt (.bl true) false _) from ss_cons (s_if (p := false) (t_or' (p := false) (q := false) (t_e (e_isi (os_var (.sh rfl) os_nil (.sh rfl)) rfl) rfl rfl) (fun _ => (t_e (e_isi (os_var (.sh rfl) os_nil (.sh rfl)) rfl) rfl rfl))) rfl (ss_nil wr)) (ss_cons (s_if (p := false) (t_or' (p := false) (q := false) (t_e (e_isi (os_var (.sh rfl) os_nil (.sh rfl)) rfl) rfl rfl) (fun _ => (t_e (e_isi (os_var (.sh rfl) os_nil (.sh rfl)) rfl) rfl rfl))) rfl (ss_nil wr)) (ss_rt (s_it (p := true) (t_or' (p := true) (q := true) (t_e (e_isi (os_var (.sh rfl) os_nil (.sh rfl)) rfl) rfl rfl) (fun _ => (t_e (e_isi (os_var (.sh rfl) os_nil (.sh rfl)) rfl) rfl rfl))) rfl (ss_rt (s_retn (e_and (t := .bl true) (p := true) (e_isi (os_var (.sh rfl) os_nil (.sh rfl)) rfl) (fun _ => e_and (t := .bl true) (p := true) (e_isi (os_var (.sh rfl) os_nil (.sh rfl)) rfl) (fun _ => e_cmp (os_var (.sh rfl) (os_var (.sh rfl) os_nil (.sh rfl)) (.sh rfl)) (e)) (fun z => nomatch z)) (fun z => nomatch z)) rfl)))))) rfl
theorem F_Llaw_alike (n : Nat) (a b : T) : ∀ r, p_Llaw_alike a b = .ok r → Cal (ctx prog WH (n + 14)) f_Llaw_alike [a, b] (.bl r) false none := fun r h => by
  obtain ⟨h1, rfl⟩ := R.aliE h
  exact alike_walk 14 n a b h1

/-- _law_pool(scr, int) -> lst[int] -/
def p_Llaw_pool (script : List Int) (k : Int) : R (List Int) := ((R.ok (((7 * k) + (3 * (script.length : Int)))) : R Int)).bind fun cell1 =>
    ((if (decide (k < (script.length : Int))) then (R.idx (script : List Int) k).bind fun x3 => .ok x3 else .ok cell1 : R Int)).bind fun m2 =>
    ((R.ok ((if m2 < 0 then -m2 else m2)) : R Int)).bind fun size4 =>
    ((R.ok ((((((size4 * 48271) + (16807 * k)) + (11 * (if (decide (m2 < 0)) then 1 else 0))) + 1) % 2305843009213693951)) : R Int)).bind fun stir5 => if (decide ((1000000000000000000 : Int) ≤ size4)) then .ok [((2 * (size4 - 1000000000000000000)) + (if (decide (m2 < 0)) then 1 else 0)), stir5] else .ok [0, stir5]
theorem F_Llaw_pool (n : Nat) (script : List Int) (k : Int) : ∀ r, p_Llaw_pool script k = .ok r → Cal (ctx prog WH (n + 1)) f_Llaw_pool [(eScr script), (T.int k)] ((eLst T.int) r) true none := fun r h =>
  cal_rt (d := d_Llaw_pool) (st0 := [.sh (eScr script), .sh (T.int k), .un, .un, .un]) (st := [.un, .un, .un, .un, .un]) rfl rfl rfl (show SS _ _ _ (.rt ((eLst T.int) r) true [.un, .un, .un, .un, .un]) from (by unfold p_Llaw_pool at h; exact (R.bindE h fun cell1 h_cell1 h => ss_cons (s_set (E.to (e_bin (os_val (e_bin (os_val e_k rfl (os_var (.sh rfl) os_nil (.sh rfl))) (mul_lit (by decide))) rfl (os_val (e_bin (os_val e_k rfl (os_val (e_bif (os_var (.sh rfl) os_nil (.sh rfl)) (len_scr _)) rfl os_nil)) (mul_lit (by decide))) rfl os_nil)) (add_op _ _)) (congrArg T.int (R.okS h_cell1))) rfl) (R.bindE h fun m2 h_m2 h => ss_cons (show S _ _ _ (.nx [.sh (eScr script), .sh (T.int k), .sh (T.int m2), .un, .un]) from R.iteE h_m2 (fun hp h => s_it (t_e (e_cmp (os_var (.sh rfl) (os_val (e_bif (os_var (.sh rfl) os_nil (.sh rfl)) (len_scr _)) rfl os_nil) (.sh rfl)) (lt_op _ _)) (tru_bl _) rfl) hp (R.bindE h fun x3 h_x3 h => ss_cons (s_set (e_idx (os_var (.sh rfl) (os_var (.sh rfl) os_nil (.sh rfl)) (.sh rfl)) (idx_scr' h_x3)) rfl) (R.okE h (ss_nil (by exact (wc kr (wc kr (wc kr (wc kr (wc kr w0)))))))))) (fun hn h => s_if (t_e (e_cmp (os_var (.sh rfl) (os_val (e_bif (os_var (.sh rfl) os_nil (.sh rfl)) (len_scr _)) rfl os_nil) (.sh rfl)) (lt_op _ _)) (tru_bl _) rfl) hn (R.okE h (ss_nil (by exact (wc kr (wc kr (wc kr (wc kr (wc kr w0)))))))))) (R.bindE h fun size4 h_size4 h => ss_cons (s_set (E.to (e_bif (os_var (.sh rfl) os_nil (.sh rfl)) (abs_op _)) (congrArg T.int (R.okS h_size4))) rfl) (R.bindE h fun stir5 h_stir5 h => ss_cons (s_set (E.to (e_bin (os_val (e_bif (os_val (e_bin (os_val (e_bin (os_val (e_bin (os_val (e_bin (os_var (.sh rfl) (os_val e_k rfl os_nil) (.sh rfl)) (mul_lir (by decide))) rfl (os_val (e_bin (os_val e_k rfl (os_var (.sh rfl) os_nil (.sh rfl))) (mul_lit (by decide))) rfl os_nil)) (add_op _ _)) rfl (os_val (e_bin (os_val e_k rfl (os_val (e_bif (os_val (e_cmp (os_var (.sh rfl) (os_val e_k rfl os_nil) (.sh rfl)) (lt_op _ _)) rfl os_nil) (intb_op _)) rfl os_nil)) (mul_lit (by decide))) rfl os_nil)) (add_op _ _)) rfl (os_val e_k rfl os_nil)) (add_op _ _)) rfl os_nil) (int_op _)) rfl (os_val e_k rfl os_nil)) (mod_lit (by decide))) (congrArg T.int (R.okS h_stir5))) rfl) (R.iteE h (fun hp h => R.okE h (ss_rt (s_it (t_e (e_cmp (os_var (.sh rfl) (os_val e_k rfl os_nil) (.sh rfl)) (ge_op _ _)) (tru_bl _) rfl) hp (ss_rtw (ss_rt (s_retf (E.to (u := ((eLst T.int) [((2 * (size4 - 1000000000000000000)) + (if (decide (m2 < 0)) then 1 else 0)), stir5])) (e_lst (es_cons (e_bin (os_val (e_bin (os_val e_k rfl (os_val (e_bin (os_var (.sh rfl) (os_val e_k rfl os_nil) (.sh rfl)) (sub_op _ _)) rfl os_nil)) (mul_lit (by decide))) rfl (os_val (e_bif (os_val (e_cmp (os_var (.sh rfl) (os_val e_k rfl os_nil) (.sh rfl)) (lt_op _ _)) rfl os_nil) (intb_op _)) rfl os_nil)) (add_op _ _)) (es_cons (e_var rfl) es_nil))) rfl) rfl rfl)) (by exact (wc ksu (wc ksu (wc ksu (wc ksu (wc ksu w0)))))))))) (fun hn h => ss_cons (s_if (t_e (e_cmp (os_var (.sh rfl) (os_val e_k rfl os_nil) (.sh rfl)) (ge_op _ _)) (tru_bl _) rfl) hn (ss_nil wr)) (R.okE h (ss_rtw (ss_rt (s_retf (E.to (u := ((eLst T.int) [0, stir5])) (e_lst (es_cons e_k (es_cons (e_var rfl) es_nil))) rfl) rfl rfl)) (by exact (wc ksu (wc ksu (wc ksu (wc ksu (wc ksu w0)))))))))))))))) rfl
/-- _law_take(lst[int], int) -> int -/
def p_Llaw_take (pool : List Int) (many : Int) : R ((Int) × List Int) := (R.idx (pool : List Int) 0).bind fun x1 => if (decide ((1 : Int) < x1)) then (R.idx (pool : List Int) 0).bind fun x2 =>
    (R.mod x2 many).bind fun r3 =>
    (R.idx (pool : List Int) 0).bind fun x4 =>
    (R.fdiv x4 many).bind fun q5 =>
    (R.setI pool 0 q5).bind fun pool6 => .ok (r3, pool6) else (R.whl (ρ := Empty) (fun (m7 : List Int × Int × Int) => .ok ((decide (m7.2.2 < (16777216 * many))), (m7.1, m7.2.1, m7.2.2))) (fun (m7 : List Int × Int × Int) =>
    (R.idx (m7.1 : List Int) 1).bind fun x8 =>
    (R.setI m7.1 1 (((x8 * 6364136223846793005) + 1442695040888963407) % 18446744073709551616)).bind fun pool9 =>
    (R.idx (pool9 : List Int) 1).bind fun x10 =>
    ((R.ok (((m7.2.1 * 16777216) + (x10 / 1099511627776))) : R Int)).bind fun told11 =>
    ((R.ok ((m7.2.2 * 16777216)) : R Int)).bind fun reach12 => .ok (.nx (pool9, told11, reach12))) WH ((pool, 0, 1))).bind fun o13 => o13.then (fun r14 =>
    (nomatch r14)) (fun m15 =>
    (R.mod m15.2.1 many).bind fun r16 => .ok (r16, m15.1))
theorem F_Llaw_take (n : Nat) (pool : List Int) (many : Int) : ∀ r, p_Llaw_take pool many = .ok r → Cal (ctx prog WH (n + 1)) f_Llaw_take [((eLst T.int) pool), (T.int many)] (T.int r.1) false (some ((eLst T.int) r.2)) := fun r h =>
  cal_rt (d := d_Llaw_take) (st0 := [.io ((eLst T.int) pool), .sh (T.int many), .un, .un]) (st := [.io ((eLst T.int) r.2), .un, .un, .un]) rfl rfl rfl (show SS _ _ _ (.rt (T.int r.1) false [.io ((eLst T.int) r.2), .un, .un, .un]) from (by unfold p_Llaw_take at h; exact (R.bindE h fun x1 h_x1 h => R.iteE h (fun hp h => R.bindE h fun x2 h_x2 h => R.bindE h fun r3 h_r3 h => R.bindE h fun x4 h_x4 h => R.bindE h fun q5 h_q5 h => R.bindE h fun pool6 h_pool6 h => R.okE h (ss_rt (s_it (t_e (e_cmp (os_val (e_idx (os_var (.io rfl) (os_val e_k rfl os_nil) (.io rfl)) (idx_lst' h_x1)) rfl (os_val e_k rfl os_nil)) (gt_op _ _)) (tru_bl _) rfl) hp (ss_cons (s_set (e_bin (os_val (e_bif (os_val (e_idx (os_var (.io rfl) (os_val e_k rfl os_nil) (.io rfl)) (idx_lst' h_x2)) rfl os_nil) (int_op _)) rfl (os_var (.sh rfl) os_nil (.sh rfl))) (mod_op h_r3)) rfl) (ss_cons (s_sub (e_bin (os_val (e_idx (os_var (.io rfl) (os_val e_k rfl os_nil) (.io rfl)) (idx_lst' h_x4)) rfl (os_var (.sh rfl) os_nil (.sh rfl))) (fdiv_op h_q5)) (fun _ => (g_setio (c := T.int) (a := q5) rfl (os_val e_k rfl os_nil) rfl h_pool6))) (ss_rtw (ss_rt (s_retv rfl)) (by exact (wc kr (wc ksu (wc ksu (wc kr w0))))))))))) (fun hn h => ss_cons (s_if (t_e (e_cmp (os_val (e_idx (os_var (.io rfl) (os_val e_k rfl os_nil) (.io rfl)) (idx_lst' h_x1)) rfl (os_val e_k rfl os_nil)) (gt_op _ _)) (tru_bl _) rfl) hn (ss_nil wr)) (ss_cons (s_set e_k rfl) (ss_cons (s_set e_k rfl) (R.bindE h fun o13 h_o13 h => R.lpE h (fun r14 e h => (nomatch r14)) (fun m15 e h => ss_cons (S.lpNx (s_whl (Sf := fun (m7 : List Int × Int × Int) => ([.io ((eLst T.int) m7.1), .sh (T.int many), .sh (T.int m7.2.1), .sh (T.int m7.2.2)] : List KV)) (Rt := (fun z => nomatch z)) h_o13 rfl (by exact (wc kr (wc kr (wc kr (wc kr w0))))) (fun m7 _ h => R.okE h (t_e (e_cmp (os_var (.sh rfl) (os_val (e_bin (os_val e_k rfl (os_var (.sh rfl) os_nil (.sh rfl))) (mul_lit (by decide))) rfl os_nil) (.sh rfl)) (lt_op _ _)) (tru_bl _) rfl)) (fun m7 _ h => R.bindE h fun x8 h_x8 h => R.bindE h fun pool9 h_pool9 h => ss_cons (s_sub (e_bin (os_val (e_bif (os_val (e_bin (os_val (e_bin (os_val (e_idx (os_var (.io rfl) (os_val e_k rfl os_nil) (.io rfl)) (idx_lst' h_x8)) rfl (os_val e_k rfl os_nil)) (mul_lir (by decide))) rfl (os_val e_k rfl os_nil)) (add_op _ _)) rfl os_nil) (int_op _)) rfl (os_val e_k rfl os_nil)) (mod_lit (by decide))) (fun _ => (g_setio (c := T.int) (a := (((x8 * 6364136223846793005) + 1442695040888963407) % 18446744073709551616)) rfl (os_val e_k rfl os_nil) rfl h_pool9))) (R.bindE h fun x10 h_x10 h => R.bindE h fun told11 h_told11 h => ss_cons (s_set (E.to (e_bin (os_val (e_bin (os_var (.sh rfl) (os_val e_k rfl os_nil) (.sh rfl)) (mul_lir (by decide))) rfl (os_val (e_bin (os_val (e_idx (os_var (.io rfl) (os_val e_k rfl os_nil) (.io rfl)) (idx_lst' h_x10)) rfl (os_val e_k rfl os_nil)) (fdiv_lit (by decide))) rfl os_nil)) (add_op _ _)) (congrArg T.int (R.okS h_told11))) rfl) (R.bindE h fun reach12 h_reach12 h => ss_cons (s_set (E.to (e_bin (os_var (.sh rfl) (os_val e_k rfl os_nil) (.sh rfl)) (mul_lir (by decide))) (congrArg T.int (R.okS h_reach12))) rfl) (R.okE h (ss_nil (by exact (wc kr (wc kr (wc kr (wc kr w0))))))))))) e) (R.bindE h fun r16 h_r16 h => R.okE h (ss_rtw (ss_rt (s_retn (e_bin (os_val (e_bif (os_var (.sh rfl) os_nil (.sh rfl)) (int_op _)) rfl (os_var (.sh rfl) os_nil (.sh rfl))) (mod_op h_r16)) rfl)) (by exact (wc kr (wc ksu (wc ksu (wc ksu w0))))))))))))))) rfl
/-- _law_pairs(int) -> lst[tup[int, int]] -/
def p_Llaw_pairs (many : Int) : R (List (Int × Int)) := (R.rng 0 many).bind fun r1 =>
    (R.fold (fun (m2 : List (Int × Int)) (one3 : Int) =>
    (R.rng (one3 + 1) many).bind fun r4 =>
    (R.cap r4).bind fun c6 =>
    (R.cat (m2 : List (Int × Int)) ((r4.map fun (two5 : Int) =>
    (one3, two5)))).bind fun c7 => .ok c7) [] r1).bind fun m8 => .ok m8
theorem F_Llaw_pairs (n : Nat) (many : Int) : ∀ r, p_Llaw_pairs many = .ok r → Cal (ctx prog WH (n + 1)) f_Llaw_pairs [(T.int many)] ((eLst (ePair T.int T.int)) r) true none := fun r h =>
  cal_rt (d := d_Llaw_pairs) (st0 := [.sh (T.int many), .un, .un, .un]) (st := [.un, .un, .un, .un]) rfl rfl rfl (show SS _ _ _ (.rt ((eLst (ePair T.int T.int)) r) true [.un, .un, .un, .un]) from (by unfold p_Llaw_pairs at h; exact (ss_cons (s_seto (e_lst es_nil) rfl rfl) (R.bindE h fun r1 h_r1 h => R.bindE h fun m8 h_m8 h => ss_cons (s_for (Sf := fun (m2 : List (Int × Int)) => ([.sh (T.int many), .ow ((eLst (ePair T.int T.int)) m2), .un, .un] : List KV)) (c := T.int) h_m8 (i_r1 (os_var (.sh rfl) os_nil (.sh rfl)) (rng_op h_r1)) (by exact (wc kr (wc kr (wc kr (wc kr w0))))) (fun one3 m2 _ h => ⟨_, (g_nm rfl), R.bindE h fun r4 h_r4 h => R.bindE h fun c6 h_c6 h => R.bindE h fun c7 h_c7 h => ss_cons (s_seto (e_bin (os_var (.ow rfl) (os_val (e_compm (c := T.int) (d := (ePair T.int T.int)) (l := r4) (g := fun (two5 : Int) => (one3, two5)) (i_r2 (os_val (e_bin (os_var (.sh rfl) (os_val e_k rfl os_nil) (.sh rfl)) (add_op _ _)) rfl (os_var (.sh rfl) os_nil (.sh rfl))) (rng_op h_r4)) rfl (fun two5 => trn (g_nm rfl) ts_nil (fun _ => (e_tup (es_cons (e_var rfl) (es_cons (e_var rfl) es_nil)))) rfl rfl) (R.capE h_c6)) rfl os_nil) (.ow rfl)) (cat_lst h_c7)) rfl rfl) (R.okE h (ss_nil (by exact (wc kr (wc kr (wc ksu (wc kr w0)))))))⟩)) (R.okE h (ss_rtw (ss_rt (s_retof rfl rfl)) (by exact (wc ksu (wc kou (wc kr (wc kr w0))))))))))) rfl
/-- _law_sum_of(int, seq[int]) -> seq[int] -/
def p_Llaw_sum_of (many : Int) (halves : List Int) : R (List Int) := (R.repL [0] many).bind fun c1 =>
    (p_Llaw_pairs many).bind fun pairs2 =>
    (R.fold (fun (m3 : List Int) (w4 : (Int × Int) × Int) =>
    (R.idx (m3 : List Int) w4.1.1).bind fun x5 =>
    (R.setI m3 w4.1.1 (x5 + w4.2)).bind fun told6 =>
    (R.idx (told6 : List Int) w4.1.2).bind fun x7 =>
    (R.setI told6 w4.1.2 ((x7 + 2) - w4.2)).bind fun told8 => .ok told8) c1 ((pairs2.zip halves))).bind fun m9 => .ok m9
theorem F_Llaw_sum_of (n : Nat) (many : Int) (halves : List Int) : ∀ r, p_Llaw_sum_of many halves = .ok r → Cal (ctx prog WH (n + 2)) f_Llaw_sum_of [(T.int many), ((eTup T.int) halves)] ((eTup T.int) r) false none := fun r h =>
  cal_rt (d := d_Llaw_sum_of) (st0 := [.sh (T.int many), .sh ((eTup T.int) halves), .un, .un, .un]) (st := [.un, .un, .un, .un, .un]) rfl rfl rfl (show SS _ _ _ (.rt ((eTup T.int) r) false [.un, .un, .un, .un, .un]) from (by unfold p_Llaw_sum_of at h; exact (R.bindE h fun c1 h_c1 h => ss_cons (s_seto (e_bin (os_val (E.to (u := ((eLst T.int) [0])) (e_lst (es_cons e_k es_nil)) rfl) rfl (os_var (.sh rfl) os_nil (.sh rfl))) (rep_lst h_c1)) rfl rfl) (R.bindE h fun pairs2 h_pairs2 h => R.bindE h fun m9 h_m9 h => ss_cons (s_for (Sf := fun (m3 : List Int) => ([.sh (T.int many), .sh ((eTup T.int) halves), .ow ((eLst T.int) m3), .un, .un] : List KV)) (c := (ePair (ePair T.int T.int) T.int)) h_m9 (i_zip (e_call rfl (es_cons (e_var rfl) es_nil) (F_Llaw_pairs (n + 0) many _ h_pairs2)) (e_var rfl) (zip_lt _ _)) (by exact (wc kr (wc kr (wc kr (wc kr (wc kr w0)))))) (fun w4 m3 _ h => ⟨_, (g_tp (gs_cons (g_nm rfl) (gs_cons (g_nm rfl) gs_nil))), R.bindE h fun x5 h_x5 h => R.bindE h fun told6 h_told6 h => ss_cons (s_sub (e_bin (os_val (e_idx (os_var (.ow rfl) (os_val (e_idx (os_var (.sh rfl) (os_val e_k rfl os_nil) (.sh rfl)) rfl) rfl os_nil) (.ow rfl)) (idx_lst' h_x5)) rfl (os_var (.sh rfl) os_nil (.sh rfl))) (add_op _ _)) (fun _ => (g_set (c := T.int) (a := (x5 + w4.2)) rfl (os_val (e_idx (os_var (.sh rfl) (os_val e_k rfl os_nil) (.sh rfl)) rfl) rfl os_nil) rfl h_told6))) (R.bindE h fun x7 h_x7 h => R.bindE h fun told8 h_told8 h => ss_cons (s_sub (e_bin (os_val (e_bin (os_val (e_idx (os_var (.ow rfl) (os_val (e_idx (os_var (.sh rfl) (os_val e_k rfl os_nil) (.sh rfl)) rfl) rfl os_nil) (.ow rfl)) (idx_lst' h_x7)) rfl (os_val e_k rfl os_nil)) (add_op _ _)) rfl (os_var (.sh rfl) os_nil (.sh rfl))) (sub_op _ _)) (fun _ => (g_set (c := T.int) (a := ((x7 + 2) - w4.2)) rfl (os_val (e_idx (os_var (.sh rfl) (os_val e_k rfl os_nil) (.sh rfl)) rfl) rfl os_nil) rfl h_told8))) (R.okE h (ss_nil (by exact (wc kr (wc kr (wc kr (wc ksu (wc ksu w0)))))))))⟩)) (R.okE h (ss_rtw (ss_rt (s_retn (e_bif (os_var (.ow rfl) os_nil (.ow rfl)) (tup_lst _)) rfl)) (by exact (wc ksu (wc ksu (wc kou (wc kr (wc kr w0)))))))))))) rfl
/-- is_whole(int) -> bool -/
def p_is_whole (value : Int) : Bool := true
theorem F_is_whole (n : Nat) (value : Int) : Cal (ctx prog WH (n + 1)) f_is_whole [(T.int value)] (T.bl (p_is_whole value)) false none :=
  show Cal _ _ _ (T.bl true) _ _ from cal_rt (d := d_is_whole) (st0 := [.sh (T.int value)]) rfl rfl rfl (ss_rtw (ss_rt (s_retn (e_and (e_isi (os_var (.sh rfl) os_nil (.sh rfl)) rfl) (fun _ => (e_not (b := false) (os_val (e_isi (os_var (.sh rfl) os_nil (.sh rfl)) rfl) rfl os_nil) (tru_bl _))) (fun z => nomatch z)) rfl)) (by exact (wc ksu w0))) rfl
/-- is_between(int, int, int) -> bool -/
def p_is_between (value : Int) (low : Int) (high : Int) : Bool := ((p_is_whole value) && ((decide (low ≤ value)) && (decide (value ≤ high))))
theorem F_is_between (n : Nat) (value : Int) (low : Int) (high : Int) : Cal (ctx prog WH (n + 2)) f_is_between [(T.int value), (T.int low), (T.int high)] (T.bl (p_is_between value low high)) false none :=
  show Cal _ _ _ (T.bl ((p_is_whole value) && ((decide (low ≤ value)) && (decide (value ≤ high))))) _ _ from cal_rt (d := d_is_between) (st0 := [.sh (T.int value), .sh (T.int low), .sh (T.int high)]) rfl rfl rfl (ss_rtw (ss_rt (s_retn (e_and' (e_call rfl (es_cons (e_var rfl) es_nil) (F_is_whole (n + 0) value)) (fun _ => (e_chn (o_var (.sh rfl)) (o_var (.sh rfl)) (o_var (.sh rfl)) (.var (.sh rfl)) (.var (.sh rfl)) (.var (.sh rfl)) (le_op _ _) (le_op _ _)))) rfl)) (by exact (wc ksu (wc ksu (wc ksu w0))))) rfl
/-- check_number(int, int, int) -> non -/
def p_check_number (value : Int) (low : Int) (high : Int) : R Unit := if (!(p_is_between value low high)) then .ex 2 .non else .ok ()
theorem F_check_number (n : Nat) (value : Int) (low : Int) (high : Int) : ∀ r, p_check_number value low high = .ok r → Cal (ctx prog WH (n + 3)) f_check_number [(T.int value), (T.int low), (T.int high)] T.non false none := fun r h =>
  cal_nx (d := d_check_number) (st0 := [.sh (T.int value), .sh (T.int low), .sh (T.int high)]) (st := [.un, .un, .un]) rfl rfl rfl (show SS _ _ _ (.nx [.un, .un, .un]) from (by unfold p_check_number at h; exact (R.iteE h (fun hp h => (nomatch h)) (fun hn h => ss_cons (s_if (t_not (t_e (e_call rfl (es_cons (e_var rfl) (es_cons (e_var rfl) (es_cons (e_var rfl) es_nil))) (F_is_between (n + 0) value low high)) (tru_bl _) rfl)) hn (ss_nil wr)) (R.okE h (ss_nil (by exact (wc ksu (wc ksu (wc ksu w0)))))))))) rfl
/-- own_games_by(int) -> int -/
def p_own_games_by (many : Int) : R Int := (R.mul many (many - 1)).bind fun m1 => .ok (m1 / 2)
theorem F_own_games_by (n : Nat) (many : Int) : ∀ r, p_own_games_by many = .ok r → Cal (ctx prog WH (n + 1)) f_own_games_by [(T.int many)] (T.int r) false none := fun r h =>
  cal_rt (d := d_own_games_by) (st0 := [.sh (T.int many)]) (st := [.un]) rfl rfl rfl (show SS _ _ _ (.rt (T.int r) false [.un]) from (by unfold p_own_games_by at h; exact (R.bindE h fun m1 h_m1 h => R.okE h (ss_rtw (ss_rt (s_retn (e_bin (os_val (e_bin (os_var (.sh rfl) (os_val (e_bin (os_var (.sh rfl) (os_val e_k rfl os_nil) (.sh rfl)) (sub_op _ _)) rfl os_nil) (.sh rfl)) (mul_op h_m1)) rfl (os_val e_k rfl os_nil)) (fdiv_lit (by decide))) rfl)) (by exact (wc ksu w0)))))) rfl
/-- is_half(int) -> bool -/
def p_is_half (value : Int) : Bool := (p_is_between value 0 2)
theorem F_is_half (n : Nat) (value : Int) : Cal (ctx prog WH (n + 3)) f_is_half [(T.int value)] (T.bl (p_is_half value)) false none :=
  show Cal _ _ _ (T.bl (p_is_between value 0 2)) _ _ from cal_rt (d := d_is_half) (st0 := [.sh (T.int value)]) rfl rfl rfl (ss_rtw (ss_rt (s_retn (e_call rfl (es_cons (e_var rfl) (es_cons e_k (es_cons e_k es_nil))) (F_is_between (n + 0) value 0 2)) rfl)) (by exact (wc ksu w0))) rfl
/-- first_wrong(seq[int], int, int, fn[is_half]) -> lst[opt[int]] -/
def p_first_wrong (value : List Int) (low : Int) (high : Int) (is_one_ : Unit) : R (List (Option Int)) := if (!((decide (low ≤ (value.length : Int))) && (decide ((value.length : Int) ≤ high)))) then .ok [none] else ((R.ok (enumA value) : R (List (Int × Int)))).bind fun l2 =>
    (R.cap l2).bind fun c3 => .ok (((cutA ((l2.filter fun (w1 : Int × Int) =>
    (!(p_is_half w1.2))).map fun (w1 : Int × Int) => w1.1) none (some 1))).map some)
theorem F_first_wrong (n : Nat) (value : List Int) (low : Int) (high : Int) (is_one_ : Unit) : ∀ r, p_first_wrong value low high is_one_ = .ok r → Cal (ctx prog WH (n + 4)) f_first_wrong [((eTup T.int) value), (T.int low), (T.int high), (T.fn f_is_half)] ((eLst (eOpt T.int)) r) true none := fun r h =>
  cal_rt (d := d_first_wrong) (st0 := [.sh ((eTup T.int) value), .sh (T.int low), .sh (T.int high), .sh (T.fn f_is_half), .un, .un]) (st := [.un, .un, .un, .un, .un, .un]) rfl rfl rfl (show SS _ _ _ (.rt ((eLst (eOpt T.int)) r) true [.un, .un, .un, .un, .un, .un]) from (by unfold p_first_wrong at h; exact (R.iteE h (fun hp h => R.okE h (ss_rt (s_it (t_or (t_not (b := true) (t_e (e_isi (os_var (.sh rfl) os_nil (.sh rfl)) rfl) (tru_bl _) rfl)) (fun z => nomatch z) (fun _ => (t_not (t_e (e_chn (o_var (.sh rfl)) (o_val (e_bif (os_var (.sh rfl) os_nil (.sh rfl)) (len_tup _)) rfl) (o_var (.sh rfl)) (.var (.sh rfl)) .val (.var (.sh rfl)) (le_op _ _) (le_op _ _)) (tru_bl _) rfl)))) hp (ss_rtw (ss_rt (s_retf (E.to (u := ((eLst (eOpt T.int)) [none])) (E.to (u := ((eLst eNon) [()])) (e_lst (es_cons e_k es_nil)) rfl) rfl) rfl rfl)) (by exact (wc ksu (wc ksu (wc ksu (wc ksu (wc kr (wc kr w0))))))))))) (fun hn h => ss_cons (s_if (t_or (t_not (b := true) (t_e (e_isi (os_var (.sh rfl) os_nil (.sh rfl)) rfl) (tru_bl _) rfl)) (fun z => nomatch z) (fun _ => (t_not (t_e (e_chn (o_var (.sh rfl)) (o_val (e_bif (os_var (.sh rfl) os_nil (.sh rfl)) (len_tup _)) rfl) (o_var (.sh rfl)) (.var (.sh rfl)) .val (.var (.sh rfl)) (le_op _ _) (le_op _ _)) (tru_bl _) rfl)))) hn (ss_nil wr)) (R.bindE h fun l2 h_l2 h => R.bindE h fun c3 h_c3 h => R.okE h (ss_rtw (ss_rt (s_retf (E.to (u := ((eLst (eOpt T.int)) (((cutA ((l2.filter fun (w1 : Int × Int) => (!(p_is_half w1.2))).map fun (w1 : Int × Int) => w1.1) none (some 1))).map some))) (e_slc (o_val (e_comp (c := (ePair T.int T.int)) (d := T.int) (l := l2) (p := fun (w1 : Int × Int) => (!(p_is_half w1.2))) (g := fun (w1 : Int × Int) => w1.1) (Go.toX (Go.toX (i_enum (e_var rfl) rfl) (enum_map _)) (congrArg (List.map (ePair T.int T.int)) (R.okS h_l2))) rfl (fun w1 => trn (g_tp (gs_cons (g_nm rfl) (gs_cons (g_nm rfl) gs_nil))) (ts_one (t_not (t_e (e_callv (.sh rfl) rfl rfl (es_cons (e_var rfl) es_nil) (F_is_half (n + 0) w1.2)) (tru_bl _) rfl))) (fun _ => (e_var rfl)) rfl rfl) (R.capE h_c3)) rfl) io_none (io_some (os_val e_k rfl os_nil)) .val (slc_lst _ _ _)) (opt_lst _)) rfl rfl)) (by exact (wc ksu (wc ksu (wc ksu (wc ksu (wc kr (wc kr w0))))))))))))) rfl
/-- wrong_in_halves(int, seq[int]) -> lst[opt[int]] -/
def p_wrong_in_halves (many : Int) (value : List Int) : R (List (Option Int)) := (p_own_games_by many).bind fun own_games_by1 =>
    (p_own_games_by many).bind fun own_games_by2 =>
    (p_first_wrong value own_games_by1 own_games_by2 ()).bind fun first_wrong3 => .ok first_wrong3
theorem F_wrong_in_halves (n : Nat) (many : Int) (value : List Int) : ∀ r, p_wrong_in_halves many value = .ok r → Cal (ctx prog WH (n + 5)) f_wrong_in_halves [(T.int many), ((eTup T.int) value)] ((eLst (eOpt T.int)) r) true none := fun r h =>
  cal_rt (d := d_wrong_in_halves) (st0 := [.sh (T.int many), .sh ((eTup T.int) value)]) (st := [.un, .un]) rfl rfl rfl (show SS _ _ _ (.rt ((eLst (eOpt T.int)) r) true [.un, .un]) from (by unfold p_wrong_in_halves at h; exact (R.bindE h fun own_games_by1 h_own_games_by1 h => R.bindE h fun own_games_by2 h_own_games_by2 h => R.bindE h fun first_wrong3 h_first_wrong3 h => R.okE h (ss_rtw (ss_rt (s_retf (e_call rfl (es_cons (e_var rfl) (es_cons (e_call rfl (es_cons (e_var rfl) es_nil) (F_own_games_by (n + 3) many _ h_own_games_by1)) (es_cons (e_call rfl (es_cons (e_var rfl) es_nil) (F_own_games_by (n + 3) many _ h_own_games_by2)) (es_cons e_k es_nil)))) (F_first_wrong (n + 0) value own_games_by1 own_games_by2 () _ h_first_wrong3)) rfl rfl)) (by exact (wc ksu (wc ksu w0))))))) rfl
/-- pairs_of(int) -> seq[tup[int, int]] -/
def p_pairs_of (many : Int) : R (List (Int × Int)) := (R.rng 0 many).bind fun r1 =>
    (R.each (β := Int × Int) (fun (one2 : Int) =>
    (R.rng (one2 + 1) many).bind fun r3 => .ok (r3.map fun (two4 : Int) =>
    (one2, two4))) r1).bind fun l5 =>
    (R.cap l5).bind fun c6 => .ok l5
theorem F_pairs_of (n : Nat) (many : Int) : ∀ r, p_pairs_of many = .ok r → Cal (ctx prog WH (n + 1)) f_pairs_of [(T.int many)] ((eTup (ePair T.int T.int)) r) false none := fun r h =>
  cal_rt (d := d_pairs_of) (st0 := [.sh (T.int many), .un, .un]) (st := [.un, .un, .un]) rfl rfl rfl (show SS _ _ _ (.rt ((eTup (ePair T.int T.int)) r) false [.un, .un, .un]) from (by unfold p_pairs_of at h; exact (R.bindE h fun r1 h_r1 h => R.bindE h fun l5 h_l5 h => R.bindE h fun c6 h_c6 h => R.okE h (ss_rtw (ss_rt (s_retn (e_bif (os_val (e_comp2 (c := T.int) (d := (ePair T.int T.int)) h_l5 (i_r1 (os_var (.sh rfl) os_nil (.sh rfl)) (rng_op h_r1)) rfl (fun one2 _ h => trn2 (g_nm rfl) ts_nil (fun _ => R.bindE h fun r3 h_r3 h => R.okE h (inTotM (c := T.int) (d := (ePair T.int T.int)) (g := fun (two4 : Int) => (one2, two4)) (i_r2 (os_val (e_bin (os_var (.sh rfl) (os_val e_k rfl os_nil) (.sh rfl)) (add_op _ _)) rfl (os_var (.sh rfl) os_nil (.sh rfl))) (rng_op h_r3)) (fun two4 => trn (g_nm rfl) ts_nil (fun _ => (e_tup (es_cons (e_var rfl) (es_cons (e_var rfl) es_nil)))) rfl rfl) rfl))) (R.capE h_c6)) rfl os_nil) (tup_lst _)) rfl)) (by exact (wc ksu (wc kr (wc kr w0)))))))) rfl
/-- points_of_halves(int, seq[int]) -> seq[int] -/
def p_points_of_halves (many : Int) (halves : List Int) : R (List Int) := (R.rng 0 many).bind fun r1 =>
    (R.cap r1).bind fun c3 =>
    ((R.ok ((r1.map fun (x2 : Int) => 0)) : R (List Int))).bind fun found4 =>
    (p_pairs_of many).bind fun pairs_of5 =>
    (R.fold (fun (m6 : List Int) (w7 : (Int × Int) × Int) =>
    (R.idx (m6 : List Int) w7.1.1).bind fun x8 =>
    (R.setI m6 w7.1.1 (x8 + w7.2)).bind fun found9 =>
    (R.idx (found9 : List Int) w7.1.2).bind fun x10 =>
    (R.setI found9 w7.1.2 ((x10 + 2) - w7.2)).bind fun found11 => .ok found11) found4 ((pairs_of5.zip halves))).bind fun m12 => .ok m12
theorem F_points_of_halves (n : Nat) (many : Int) (halves : List Int) : ∀ r, p_points_of_halves many halves = .ok r → Cal (ctx prog WH (n + 2)) f_points_of_halves [(T.int many), ((eTup T.int) halves)] ((eTup T.int) r) false none := fun r h =>
  cal_rt (d := d_points_of_halves) (st0 := [.sh (T.int many), .sh ((eTup T.int) halves), .un, .un, .un, .un, .un]) (st := [.un, .un, .un, .un, .un, .un, .un]) rfl rfl rfl (show SS _ _ _ (.rt ((eTup T.int) r) false [.un, .un, .un, .un, .un, .un, .un]) from (by unfold p_points_of_halves at h; exact (R.bindE h fun r1 h_r1 h => R.bindE h fun c3 h_c3 h => R.bindE h fun found4 h_found4 h => ss_cons (s_seto (E.to (e_compm (c := T.int) (d := T.int) (l := r1) (g := fun (x2 : Int) => 0) (i_r1 (os_var (.sh rfl) os_nil (.sh rfl)) (rng_op h_r1)) rfl (fun x2 => trn (g_nm rfl) ts_nil (fun _ => e_k) rfl rfl) (R.capE h_c3)) (congrArg (eLst T.int) (R.okS h_found4))) rfl rfl) (R.bindE h fun pairs_of5 h_pairs_of5 h => R.bindE h fun m12 h_m12 h => ss_cons (s_for (Sf := fun (m6 : List Int) => ([.sh (T.int many), .sh ((eTup T.int) halves), .ow ((eLst T.int) m6), .un, .un, .un, .un] : List KV)) (c := (ePair (ePair T.int T.int) T.int)) h_m12 (i_zip (e_call rfl (es_cons (e_var rfl) es_nil) (F_pairs_of (n + 0) many _ h_pairs_of5)) (e_var rfl) (zip_tup _ _)) (by exact (wc kr (wc kr (wc kr (wc kr (wc kr (wc kr (wc kr w0)))))))) (fun w7 m6 _ h => ⟨_, (g_tp (gs_cons (g_tp (gs_cons (g_nm rfl) (gs_cons (g_nm rfl) gs_nil))) (gs_cons (g_nm rfl) gs_nil))), R.bindE h fun x8 h_x8 h => R.bindE h fun found9 h_found9 h => ss_cons (s_sub (e_bin (os_val (e_idx (os_var (.ow rfl) (os_var (.sh rfl) os_nil (.sh rfl)) (.ow rfl)) (idx_lst' h_x8)) rfl (os_var (.sh rfl) os_nil (.sh rfl))) (add_op _ _)) (fun _ => (g_set (c := T.int) (a := (x8 + w7.2)) rfl (os_var (.sh rfl) os_nil (.sh rfl)) rfl h_found9))) (R.bindE h fun x10 h_x10 h => R.bindE h fun found11 h_found11 h => ss_cons (s_sub (e_bin (os_val (e_bin (os_val (e_idx (os_var (.ow rfl) (os_var (.sh rfl) os_nil (.sh rfl)) (.ow rfl)) (idx_lst' h_x10)) rfl (os_val e_k rfl os_nil)) (add_op _ _)) rfl (os_var (.sh rfl) os_nil (.sh rfl))) (sub_op _ _)) (fun _ => (g_set (c := T.int) (a := ((x10 + 2) - w7.2)) rfl (os_var (.sh rfl) os_nil (.sh rfl)) rfl h_found11))) (R.okE h (ss_nil (by exact (wc kr (wc kr (wc kr (wc ksu (wc kr (wc ksu (wc ksu w0)))))))))))⟩)) (R.okE h (ss_rtw (ss_rt (s_retn (e_bif (os_var (.ow rfl) os_nil (.ow rfl)) (tup_lst _)) rfl)) (by exact (wc ksu (wc ksu (wc kou (wc kr (wc kr (wc kr (wc kr w0)))))))))))))) rfl
/-- halves_points(int, seq[int]) -> seq[int] -/
def p_halves_points (many : Int) (halves : List Int) : R (List Int) := (p_check_number many 1 8).bind fun check_number1 =>
    (p_wrong_in_halves many halves).bind fun wrong_in_halves2 =>
    (R.fold (fun (m3 : Unit) (index4 : Option Int) => .ex 4 .non) () wrong_in_halves2).bind fun m5 =>
    (p_points_of_halves many halves).bind fun points_of_halves6 => .ok points_of_halves6
theorem F_halves_points (n : Nat) (many : Int) (halves : List Int) : ∀ r, p_halves_points many halves = .ok r → Cal (ctx prog WH (n + 6)) f_halves_points [(T.int many), ((eTup T.int) halves)] ((eTup T.int) r) false none := fun r h =>
  cal_rt (d := d_halves_points) (st0 := [.sh (T.int many), .sh ((eTup T.int) halves), .un]) (st := [.un, .un, .un]) rfl rfl rfl (show SS _ _ _ (.rt ((eTup T.int) r) false [.un, .un, .un]) from (by unfold p_halves_points at h; exact (R.bindE h fun check_number1 h_check_number1 h => ss_cons (s_exp (e_call rfl (es_cons (e_var rfl) (es_cons e_k (es_cons (e_glb rfl) es_nil))) (F_check_number (n + 2) many 1 8 _ h_check_number1))) (R.bindE h fun wrong_in_halves2 h_wrong_in_halves2 h => R.bindE h fun m5 h_m5 h => ss_cons (s_for (Sf := fun (m3 : Unit) => ([.sh (T.int many), .sh ((eTup T.int) halves), .un] : List KV)) (c := (eOpt T.int)) h_m5 (i_ex (e_call rfl (es_cons (e_var rfl) (es_cons (e_var rfl) es_nil)) (F_wrong_in_halves (n + 0) many halves _ h_wrong_in_halves2)) (seq_lst _)) (by exact (wc kr (wc kr (wc kr w0)))) (fun index4 m3 _ h => ⟨_, (g_nm rfl), (nomatch h)⟩)) (R.bindE h fun points_of_halves6 h_points_of_halves6 h => R.okE h (ss_rtw (ss_rt (s_retn (e_call rfl (es_cons (e_var rfl) (es_cons (e_var rfl) es_nil)) (F_points_of_halves (n + 3) many halves _ h_points_of_halves6)) rfl)) (by exact (wc ksu (wc ksu (wc kr w0)))))))))) rfl
/-- own_games(int) -> int -/
def p_own_games (many : Int) : R Int := (p_check_number many 0 99).bind fun check_number1 =>
    (p_own_games_by many).bind fun own_games_by2 => .ok own_games_by2
theorem F_own_games (n : Nat) (many : Int) : ∀ r, p_own_games many = .ok r → Cal (ctx prog WH (n + 4)) f_own_games [(T.int many)] (T.int r) false none := fun r h =>
  cal_rt (d := d_own_games) (st0 := [.sh (T.int many)]) (st := [.un]) rfl rfl rfl (show SS _ _ _ (.rt (T.int r) false [.un]) from (by unfold p_own_games at h; exact (R.bindE h fun check_number1 h_check_number1 h => ss_cons (s_exp (e_call rfl (es_cons (e_var rfl) (es_cons e_k (es_cons (e_glb rfl) es_nil))) (F_check_number (n + 0) many 0 99 _ h_check_number1))) (R.bindE h fun own_games_by2 h_own_games_by2 h => R.okE h (ss_rtw (ss_rt (s_retn (e_call rfl (es_cons (e_var rfl) es_nil) (F_own_games_by (n + 2) many _ h_own_games_by2)) rfl)) (by exact (wc ksu w0))))))) rfl
/-- is_number(int) -> bool -/
def p_is_number (value : Int) : Bool := ((p_is_whole value) && (decide ((0 : Int) ≤ value)))
theorem F_is_number (n : Nat) (value : Int) : Cal (ctx prog WH (n + 2)) f_is_number [(T.int value)] (T.bl (p_is_number value)) false none :=
  show Cal _ _ _ (T.bl ((p_is_whole value) && (decide ((0 : Int) ≤ value)))) _ _ from cal_rt (d := d_is_number) (st0 := [.sh (T.int value)]) rfl rfl rfl (ss_rtw (ss_rt (s_retn (e_and' (e_call rfl (es_cons (e_var rfl) es_nil) (F_is_whole (n + 0) value)) (fun _ => (e_cmp (os_var (.sh rfl) (os_val e_k rfl os_nil) (.sh rfl)) (ge_op _ _)))) rfl)) (by exact (wc ksu w0))) rfl
/-- first_wrong(seq[int], int, int, fn[is_number]) -> lst[opt[int]] -/
def p_first_wrong_1 (value : List Int) (low : Int) (high : Int) (is_one_ : Unit) : R (List (Option Int)) := if (!((decide (low ≤ (value.length : Int))) && (decide ((value.length : Int) ≤ high)))) then .ok [none] else ((R.ok (enumA value) : R (List (Int × Int)))).bind fun l2 =>
    (R.cap l2).bind fun c3 => .ok (((cutA ((l2.filter fun (w1 : Int × Int) =>
    (!(p_is_number w1.2))).map fun (w1 : Int × Int) => w1.1) none (some 1))).map some)
theorem F_first_wrong_1 (n : Nat) (value : List Int) (low : Int) (high : Int) (is_one_ : Unit) : ∀ r, p_first_wrong_1 value low high is_one_ = .ok r → Cal (ctx prog WH (n + 3)) f_first_wrong [((eTup T.int) value), (T.int low), (T.int high), (T.fn f_is_number)] ((eLst (eOpt T.int)) r) true none := fun r h =>
  cal_rt (d := d_first_wrong) (st0 := [.sh ((eTup T.int) value), .sh (T.int low), .sh (T.int high), .sh (T.fn f_is_number), .un, .un]) (st := [.un, .un, .un, .un, .un, .un]) rfl rfl rfl (show SS _ _ _ (.rt ((eLst (eOpt T.int)) r) true [.un, .un, .un, .un, .un, .un]) from (by unfold p_first_wrong_1 at h; exact (R.iteE h (fun hp h => R.okE h (ss_rt (s_it (t_or (t_not (b := true) (t_e (e_isi (os_var (.sh rfl) os_nil (.sh rfl)) rfl) (tru_bl _) rfl)) (fun z => nomatch z) (fun _ => (t_not (t_e (e_chn (o_var (.sh rfl)) (o_val (e_bif (os_var (.sh rfl) os_nil (.sh rfl)) (len_tup _)) rfl) (o_var (.sh rfl)) (.var (.sh rfl)) .val (.var (.sh rfl)) (le_op _ _) (le_op _ _)) (tru_bl _) rfl)))) hp (ss_rtw (ss_rt (s_retf (E.to (u := ((eLst (eOpt T.int)) [none])) (E.to (u := ((eLst eNon) [()])) (e_lst (es_cons e_k es_nil)) rfl) rfl) rfl rfl)) (by exact (wc ksu (wc ksu (wc ksu (wc ksu (wc kr (wc kr w0))))))))))) (fun hn h => ss_cons (s_if (t_or (t_not (b := true) (t_e (e_isi (os_var (.sh rfl) os_nil (.sh rfl)) rfl) (tru_bl _) rfl)) (fun z => nomatch z) (fun _ => (t_not (t_e (e_chn (o_var (.sh rfl)) (o_val (e_bif (os_var (.sh rfl) os_nil (.sh rfl)) (len_tup _)) rfl) (o_var (.sh rfl)) (.var (.sh rfl)) .val (.var (.sh rfl)) (le_op _ _) (le_op _ _)) (tru_bl _) rfl)))) hn (ss_nil wr)) (R.bindE h fun l2 h_l2 h => R.bindE h fun c3 h_c3 h => R.okE h (ss_rtw (ss_rt (s_retf (E.to (u := ((eLst (eOpt T.int)) (((cutA ((l2.filter fun (w1 : Int × Int) => (!(p_is_number w1.2))).map fun (w1 : Int × Int) => w1.1) none (some 1))).map some))) (e_slc (o_val (e_comp (c := (ePair T.int T.int)) (d := T.int) (l := l2) (p := fun (w1 : Int × Int) => (!(p_is_number w1.2))) (g := fun (w1 : Int × Int) => w1.1) (Go.toX (Go.toX (i_enum (e_var rfl) rfl) (enum_map _)) (congrArg (List.map (ePair T.int T.int)) (R.okS h_l2))) rfl (fun w1 => trn (g_tp (gs_cons (g_nm rfl) (gs_cons (g_nm rfl) gs_nil))) (ts_one (t_not (t_e (e_callv (.sh rfl) rfl rfl (es_cons (e_var rfl) es_nil) (F_is_number (n + 0) w1.2)) (tru_bl _) rfl))) (fun _ => (e_var rfl)) rfl rfl) (R.capE h_c3)) rfl) io_none (io_some (os_val e_k rfl os_nil)) .val (slc_lst _ _ _)) (opt_lst _)) rfl rfl)) (by exact (wc ksu (wc ksu (wc ksu (wc ksu (wc kr (wc kr w0))))))))))))) rfl
/-- check_numbers(seq[int]) -> non -/
def p_check_numbers (value : List Int) : R Unit := (p_first_wrong_1 value 1 8 ()).bind fun first_wrong1 =>
    (R.fold (fun (m2 : Unit) (index3 : Option Int) => .ex 3 .non) () first_wrong1).bind fun m4 => .ok ()
theorem F_check_numbers (n : Nat) (value : List Int) : ∀ r, p_check_numbers value = .ok r → Cal (ctx prog WH (n + 4)) f_check_numbers [((eTup T.int) value)] T.non false none := fun r h =>
  cal_nx (d := d_check_numbers) (st0 := [.sh ((eTup T.int) value), .un]) (st := [.un, .un]) rfl rfl rfl (show SS _ _ _ (.nx [.un, .un]) from (by unfold p_check_numbers at h; exact (R.bindE h fun first_wrong1 h_first_wrong1 h => R.bindE h fun m4 h_m4 h => ss_cons (s_for (Sf := fun (m2 : Unit) => ([.sh ((eTup T.int) value), .un] : List KV)) (c := (eOpt T.int)) h_m4 (i_ex (e_call rfl (es_cons (e_var rfl) (es_cons e_k (es_cons (e_glb rfl) (es_cons e_k es_nil)))) (F_first_wrong_1 (n + 0) value 1 8 () _ h_first_wrong1)) (seq_lst _)) (by exact (wc kr (wc kr w0))) (fun index3 m2 _ h => ⟨_, (g_nm rfl), (nomatch h)⟩)) (R.okE h (ss_nil (by exact (wc ksu (wc kr w0)))))))) rfl
/-- has_right_sum(seq[int]) -> bool -/
def p_has_right_sum (numbers : List Int) : R Bool := (p_own_games_by (numbers.length : Int)).bind fun own_games_by1 => .ok (decide (numbers.sum = ((2 * own_games_by1) : Int)))
theorem F_has_right_sum (n : Nat) (numbers : List Int) : ∀ r, p_has_right_sum numbers = .ok r → Cal (ctx prog WH (n + 2)) f_has_right_sum [((eTup T.int) numbers)] (T.bl r) false none := fun r h =>
  cal_rt (d := d_has_right_sum) (st0 := [.sh ((eTup T.int) numbers)]) (st := [.un]) rfl rfl rfl (show SS _ _ _ (.rt (T.bl r) false [.un]) from (by unfold p_has_right_sum at h; exact (R.bindE h fun own_games_by1 h_own_games_by1 h => R.okE h (ss_rtw (ss_rt (s_retn (e_cmp (os_val (e_bif (os_var (.sh rfl) os_nil (.sh rfl)) (sum_tup _)) rfl (os_val (e_bin (os_val e_k rfl (os_val (e_call rfl (es_cons (e_bif (os_var (.sh rfl) os_nil (.sh rfl)) (len_tup _)) es_nil) (F_own_games_by (n + 0) (numbers.length : Int) _ h_own_games_by1)) rfl os_nil)) (mul_lit (by decide))) rfl os_nil)) (eq_op eqInt numbers.sum (2 * own_games_by1))) rfl)) (by exact (wc ksu w0)))))) rfl
/-- lots_of(int) -> lst[seq[int]] -/
def p_lots_of (many : Int) : R (List (List Int)) := (R.rng 0 many).bind fun r1 =>
    (R.fold (fun (m2 : List (List Int)) (player3 : Int) =>
    (R.mapR (β := List Int) (fun (lot4 : List Int) =>
    (R.cat (lot4 : List Int) [player3]).bind fun c5 => .ok c5) m2).bind fun l6 =>
    (R.cap l6).bind fun c7 =>
    (R.cat (m2 : List (List Int)) l6).bind fun c8 => .ok c8) [[]] r1).bind fun m9 =>
    (R.need (sortOk m9)).bind fun c10 => .ok (sortB HT.lexLt m9)
theorem F_lots_of (n : Nat) (many : Int) : ∀ r, p_lots_of many = .ok r → Cal (ctx prog WH (n + 1)) f_lots_of [(T.int many)] ((eLst (eTup T.int)) r) true none := fun r h =>
  cal_rt (d := d_lots_of) (st0 := [.sh (T.int many), .un, .un, .un]) (st := [.un, .un, .un, .un]) rfl rfl rfl (show SS _ _ _ (.rt ((eLst (eTup T.int)) r) true [.un, .un, .un, .un]) from (by unfold p_lots_of at h; exact (ss_cons (s_seto (E.to (u := ((eLst eP0) [()])) (e_lst (es_cons (e_tup es_nil) es_nil)) rfl) rfl rfl) (R.bindE h fun r1 h_r1 h => R.bindE h fun m9 h_m9 h => ss_cons (s_for (Sf := fun (m2 : List (List Int)) => ([.sh (T.int many), .ow ((eLst (eTup T.int)) m2), .un, .un] : List KV)) (c := T.int) h_m9 (i_r1 (os_var (.sh rfl) os_nil (.sh rfl)) (rng_op h_r1)) (by exact (wc kr (wc kr (wc kr (wc kr w0))))) (fun player3 m2 _ h => ⟨_, (g_nm rfl), R.bindE h fun l6 h_l6 h => R.bindE h fun c7 h_c7 h => R.bindE h fun c8 h_c8 h => ss_wk (by exact (wc kr (wc kos (wc kr (wc kr w0))))) (ss_cons (s_seto (e_bin (os_var (.sh rfl) (os_val (e_compM (c := (eTup T.int)) (d := (eTup T.int)) h_l6 (i_ex (e_var rfl) (seq_lst _)) rfl (fun lot4 _ h => R.bindE h fun c5 h_c5 h => R.okE h (trn (g_nm rfl) ts_nil (fun _ => (e_bin (os_var (.sh rfl) (os_val (e_tup (es_cons (e_var rfl) es_nil)) rfl os_nil) (.sh rfl)) (cat_tup h_c5))) rfl rfl)) (R.capE h_c7)) rfl os_nil) (.sh rfl)) (cat_lst h_c8)) rfl rfl) (R.okE h (ss_nil (by exact (wc kr (wc kr (wc ksu (wc kr w0))))))))⟩)) (R.bindE h fun c10 h_c10 h => R.okE h (ss_rtw (ss_rt (s_retf (e_bif (os_var (.ow rfl) os_nil (.ow rfl)) (sort_lots h_c10)) rfl rfl)) (by exact (wc ksu (wc kou (wc kr (wc kr w0))))))))))) rfl
/-- sum_over(seq[int], seq[int]) -> int -/
def p_sum_over (numbers : List Int) (lot : List Int) : R Int := (R.mapR (β := Int) (fun (player1 : Int) =>
    (R.idx (numbers : List Int) player1).bind fun x2 => .ok x2) lot).bind fun l3 =>
    (R.cap l3).bind fun c4 => .ok (l3.sum)
theorem F_sum_over (n : Nat) (numbers : List Int) (lot : List Int) : ∀ r, p_sum_over numbers lot = .ok r → Cal (ctx prog WH (n + 1)) f_sum_over [((eTup T.int) numbers), ((eTup T.int) lot)] (T.int r) false none := fun r h =>
  cal_rt (d := d_sum_over) (st0 := [.sh ((eTup T.int) numbers), .sh ((eTup T.int) lot), .un]) (st := [.un, .un, .un]) rfl rfl rfl (show SS _ _ _ (.rt (T.int r) false [.un, .un, .un]) from (by unfold p_sum_over at h; exact (R.bindE h fun l3 h_l3 h => R.bindE h fun c4 h_c4 h => R.okE h (ss_rtw (ss_rt (s_retn (e_bif (os_val (e_compM (c := T.int) (d := T.int) h_l3 (i_ex (e_var rfl) (seq_tup _)) rfl (fun player1 _ h => R.bindE h fun x2 h_x2 h => R.okE h (trn (g_nm rfl) ts_nil (fun _ => (e_idx (os_var (.sh rfl) (os_var (.sh rfl) os_nil (.sh rfl)) (.sh rfl)) (idx_tup' h_x2))) rfl rfl)) (R.capE h_c4)) rfl os_nil) (sum_lst _)) rfl)) (by exact (wc ksu (wc ksu (wc kr w0)))))))) rfl
/-- short_halves_lot_by(seq[int]) -> opt[seq[int]] -/
def p_short_halves_lot_by (numbers : List Int) : R (Option (List Int)) := (p_lots_of (numbers.length : Int)).bind fun lots_of1 =>
    (R.each (β := List Int) (fun (lot2 : List Int) =>
    (p_sum_over numbers lot2).bind fun sum_over3 =>
    (p_own_games_by (lot2.length : Int)).bind fun own_games_by4 => if (decide (sum_over3 < (2 * own_games_by4))) then .ok [lot2] else .ok []) lots_of1).bind fun l5 =>
    (R.cap l5).bind fun c6 =>
    (if (!(decide (l5 = ([] : List (List Int))))) then (R.idx (l5 : List (List Int)) 0).bind fun x7 => .ok (some x7) else .ok none).bind fun v8 => .ok v8
theorem F_short_halves_lot_by (n : Nat) (numbers : List Int) : ∀ r, p_short_halves_lot_by numbers = .ok r → Cal (ctx prog WH (n + 2)) f_short_halves_lot_by [((eTup T.int) numbers)] ((eOpt (eTup T.int)) r) false none := fun r h =>
  cal_rt (d := d_short_halves_lot_by) (st0 := [.sh ((eTup T.int) numbers), .un, .un]) (st := [.un, .un, .un]) rfl rfl rfl (show SS _ _ _ (.rt ((eOpt (eTup T.int)) r) false [.un, .un, .un]) from (by unfold p_short_halves_lot_by at h; exact (R.bindE h fun lots_of1 h_lots_of1 h => R.bindE h fun l5 h_l5 h => R.bindE h fun c6 h_c6 h => ss_cons (s_seto (e_compR (c := (eTup T.int)) (d := (eTup T.int)) h_l5 (i_ex (e_call rfl (es_cons (e_bif (os_var (.sh rfl) os_nil (.sh rfl)) (len_tup _)) es_nil) (F_lots_of (n + 0) (numbers.length : Int) _ h_lots_of1)) (seq_lst _)) rfl (fun lot2 _ h => R.bindE h fun sum_over3 h_sum_over3 h => R.bindE h fun own_games_by4 h_own_games_by4 h => R.iteE h (fun hp h => R.okE h ⟨true, _, trnT (g_nm rfl) (ts_one (t_e (e_cmp (os_val (e_call rfl (es_cons (e_var rfl) (es_cons (e_var rfl) es_nil)) (F_sum_over (n + 0) numbers lot2 _ h_sum_over3)) rfl (os_val (e_bin (os_val e_k rfl (os_val (e_call rfl (es_cons (e_bif (os_var (.sh rfl) os_nil (.sh rfl)) (len_tup _)) es_nil) (F_own_games_by (n + 0) (lot2.length : Int) _ h_own_games_by4)) rfl os_nil)) (mul_lit (by decide))) rfl os_nil)) (lt_op _ _)) (tru_bl _) rfl)) hp (e_var rfl) rfl, rfl⟩) (fun hn h => R.okE h ⟨false, .non, trnF (g_nm rfl) (ts_one (t_e (e_cmp (os_val (e_call rfl (es_cons (e_var rfl) (es_cons (e_var rfl) es_nil)) (F_sum_over (n + 0) numbers lot2 _ h_sum_over3)) rfl (os_val (e_bin (os_val e_k rfl (os_val (e_call rfl (es_cons (e_bif (os_var (.sh rfl) os_nil (.sh rfl)) (len_tup _)) es_nil) (F_own_games_by (n + 0) (lot2.length : Int) _ h_own_games_by4)) rfl os_nil)) (mul_lit (by decide))) rfl os_nil)) (lt_op _ _)) (tru_bl _) rfl)) hn rfl, rfl⟩)) (R.capE h_c6)) rfl rfl) (R.bindE h fun v8 h_v8 h => R.okE h (ss_rtw (ss_rt (s_retn (show E _ _ _ ((eOpt (eTup T.int)) v8) false [.sh ((eTup T.int) numbers), .ow ((eLst (eTup T.int)) l5), .un] from (e_ite (t_e (e_cmp (os_var (.ow rfl) (os_val (e_lst es_nil) rfl os_nil) (.ow rfl)) (ne_op (eqLst (eqTup eqInt)) l5 [])) (tru_bl _) rfl) (fun hp => have h := R.ifT h_v8 hp; R.bindE h fun x7 h_x7 h => R.okE h (E.toSt (E.nofr (e_idx (os_var (.ow rfl) (os_val e_k rfl os_nil) (.ow rfl)) (idx_lst' h_x7))) rfl)) (fun hn => have h := R.ifF h_v8 hn; R.okE h (E.toSt (E.nofr e_k) rfl)))) rfl)) (by exact (wc ksu (wc kou (wc kr w0))))))))) rfl
/-- is_halves_list_by(seq[int]) -> bool -/
def p_is_halves_list_by (numbers : List Int) : R Bool := (p_has_right_sum numbers).bind fun has_right_sum1 =>
    (if has_right_sum1 then (p_short_halves_lot_by numbers).bind fun short_halves_lot_by2 => .ok short_halves_lot_by2.isNone else .ok false).bind fun b3 => .ok b3
theorem F_is_halves_list_by (n : Nat) (numbers : List Int) : ∀ r, p_is_halves_list_by numbers = .ok r → Cal (ctx prog WH (n + 3)) f_is_halves_list_by [((eTup T.int) numbers)] (T.bl r) false none := fun r h =>
  cal_rt (d := d_is_halves_list_by) (st0 := [.sh ((eTup T.int) numbers)]) (st := [.un]) rfl rfl rfl (show SS _ _ _ (.rt (T.bl r) false [.un]) from (by unfold p_is_halves_list_by at h; exact (R.bindE h fun has_right_sum1 h_has_right_sum1 h => R.bindE h fun b3 h_b3 h => R.okE h (ss_rtw (ss_rt (s_retn (e_and (t := .bl b3) (e_call rfl (es_cons (e_var rfl) es_nil) (F_has_right_sum (n + 0) numbers _ h_has_right_sum1)) (fun hp => have h := R.ifT h_b3 hp; R.bindE h fun short_halves_lot_by2 h_short_halves_lot_by2 h => R.okE h (e_cmp (os_val (e_call rfl (es_cons (e_var rfl) es_nil) (F_short_halves_lot_by (n + 0) numbers _ h_short_halves_lot_by2)) rfl (os_val e_k rfl os_nil)) (is_opt (fun _ => rfl) _))) (fun hn => ⟨(congrArg T.bl (R.okS (R.ifF h_b3 hn)).symm), wr⟩)) rfl)) (by exact (wc ksu w0)))))) rfl
/-- is_halves_list(seq[int]) -> bool -/
def p_is_halves_list (numbers : List Int) : R Bool := (p_check_numbers numbers).bind fun check_numbers1 =>
    (p_is_halves_list_by numbers).bind fun is_halves_list_by2 => .ok is_halves_list_by2
theorem F_is_halves_list (n : Nat) (numbers : List Int) : ∀ r, p_is_halves_list numbers = .ok r → Cal (ctx prog WH (n + 5)) f_is_halves_list [((eTup T.int) numbers)] (T.bl r) false none := fun r h =>
  cal_rt (d := d_is_halves_list) (st0 := [.sh ((eTup T.int) numbers)]) (st := [.un]) rfl rfl rfl (show SS _ _ _ (.rt (T.bl r) false [.un]) from (by unfold p_is_halves_list at h; exact (R.bindE h fun check_numbers1 h_check_numbers1 h => ss_cons (s_exp (e_call rfl (es_cons (e_var rfl) es_nil) (F_check_numbers (n + 0) numbers _ h_check_numbers1))) (R.bindE h fun is_halves_list_by2 h_is_halves_list_by2 h => R.okE h (ss_rtw (ss_rt (s_retn (e_call rfl (es_cons (e_var rfl) es_nil) (F_is_halves_list_by (n + 1) numbers _ h_is_halves_list_by2)) rfl)) (by exact (wc ksu w0))))))) rfl
/-- _law_order(lst[int], int) -> seq[int] -/
def p_Llaw_order (pool : List Int) (many : Int) : R ((List Int) × List Int) := (R.rng 0 many).bind fun r1 =>
    (R.whl (ρ := Empty) (fun (m2 : List Int × List Int × List Int) => .ok ((!(decide (m2.2.1 = ([] : List Int)))), (m2.1, m2.2.1, m2.2.2))) (fun (m2 : List Int × List Int × List Int) =>
    (p_Llaw_take m2.1 (m2.2.1.length : Int)).bind fun take3 =>
    (R.popI m2.2.1 take3.1).bind fun x4 =>
    (R.app (m2.2.2 : List Int) x4.1).bind fun found5 => .ok (.nx (take3.2, x4.2, found5))) WH ((pool, r1, []))).bind fun o6 => o6.then (fun r7 =>
    (nomatch r7)) (fun m8 => .ok (m8.2.2, m8.1))
theorem F_Llaw_order (n : Nat) (pool : List Int) (many : Int) : ∀ r, p_Llaw_order pool many = .ok r → Cal (ctx prog WH (n + 2)) f_Llaw_order [((eLst T.int) pool), (T.int many)] ((eTup T.int) r.1) false (some ((eLst T.int) r.2)) := fun r h =>
  cal_rt (d := d_Llaw_order) (st0 := [.io ((eLst T.int) pool), .sh (T.int many), .un, .un]) (st := [.io ((eLst T.int) r.2), .un, .un, .un]) rfl rfl rfl (show SS _ _ _ (.rt ((eTup T.int) r.1) false [.io ((eLst T.int) r.2), .un, .un, .un]) from (by unfold p_Llaw_order at h; exact (R.bindE h fun r1 h_r1 h => ss_cons (s_two (e_lrng (i_r1 (os_var (.sh rfl) os_nil (.sh rfl)) (rng_op h_r1))) (e_lst es_nil) (g2_ow rfl rfl) (g2_ow rfl rfl)) (R.bindE h fun o6 h_o6 h => R.lpE h (fun r7 e h => (nomatch r7)) (fun m8 e h => ss_cons (S.lpNx (s_whl (Sf := fun (m2 : List Int × List Int × List Int) => ([.io ((eLst T.int) m2.1), .sh (T.int many), .ow ((eLst T.int) m2.2.1), .ow ((eLst T.int) m2.2.2)] : List KV)) (Rt := (fun z => nomatch z)) h_o6 rfl (by exact (wc kr (wc kr (wc kr (wc kr w0))))) (fun m2 _ h => R.okE h (t_e (e_cmp (os_var (.ow rfl) (os_val (e_lst es_nil) rfl os_nil) (.ow rfl)) (ne_op (eqLst eqInt) m2.2.1 [])) (tru_bl _) rfl)) (fun m2 _ h => R.bindE h fun take3 h_take3 h => R.bindE h fun x4 h_x4 h => R.bindE h fun found5 h_found5 h => ss_cons (s_appR (c := T.int) (a := x4.1) rfl (e_popI rfl (io_some (os_val (e_callio rfl rfl (es_cons (e_bif (os_var (.ow rfl) os_nil (.ow rfl)) (len_lst _)) es_nil) rfl (F_Llaw_take (n + 0) m2.1 (m2.2.1.length : Int) _ h_take3)) rfl os_nil)) rfl h_x4) rfl h_found5) (R.okE h (ss_nil (by exact (wc kr (wc kr (wc kr (wc kr w0))))))))) e) (R.okE h (ss_rtw (ss_rt (s_retn (e_bif (os_var (.ow rfl) os_nil (.ow rfl)) (tup_lst _)) rfl)) (by exact (wc kr (wc ksu (wc kou (wc kou w0)))))))))))) rfl
/-- _law_results(lst[int], int) -> tup[int, seq[tup[int, int]]] -/
def p_Llaw_results (pool : List Int) (many : Int) : R ((Int × List (Int × Int)) × List Int) := (p_Llaw_take pool 3).bind fun take1 =>
    (p_Llaw_order take1.2 many).bind fun order2 =>
    (p_Llaw_pairs many).bind fun pairs3 =>
    (R.fold (fun (m4 : List Int × List (Int × Int)) (w5 : Int × Int) =>
    (R.idx (order2.1 : List Int) w5.1).bind fun x6 =>
    (R.idx (order2.1 : List Int) w5.2).bind fun x7 =>
    (p_Llaw_take m4.1 2).bind fun take8 =>
    ((R.ok ((decide (take8.1 = (0 : Int)))) : R Bool)).bind fun turned9 =>
    ((if (decide (take1.1 = (1 : Int))) then (p_Llaw_take take8.2 7).bind fun take11 =>
    ((R.ok ((decide (take11.1 = (0 : Int)))) : R Bool)).bind fun turned12 => .ok (take11.2, turned12) else .ok (take8.2, turned9) : R (List Int × Bool))).bind fun m10 =>
    ((if (decide (take1.1 = (2 : Int))) then (if (decide ((1 : Int) < (w5.2 - w5.1))) then (p_Llaw_take m10.1 3).bind fun take14 => .ok ((decide ((0 : Int) < take14.1)), take14.2) else .ok (false, m10.1)).bind fun b15 => .ok (b15.2, b15.1) else .ok (m10.1, m10.2) : R (List Int × Bool))).bind fun m13 =>
    (R.app (m4.2 : List (Int × Int)) ((if m13.2 then (x7, x6) else (x6, x7)))).bind fun wins16 => .ok (m13.1, wins16)) ((order2.2, [])) pairs3).bind fun m17 => .ok ((many, (sortP m17.2)), m17.1)
theorem F_Llaw_results (n : Nat) (pool : List Int) (many : Int) : ∀ r, p_Llaw_results pool many = .ok r → Cal (ctx prog WH (n + 3)) f_Llaw_results [((eLst T.int) pool), (T.int many)] ((ePair T.int (eTup (ePair T.int T.int))) r.1) false (some ((eLst T.int) r.2)) := fun r h =>
  cal_rt (d := d_Llaw_results) (st0 := [.io ((eLst T.int) pool), .sh (T.int many), .un, .un, .un, .un, .un, .un, .un, .un]) (st := [.io ((eLst T.int) r.2), .un, .un, .un, .un, .un, .un, .un, .un, .un]) rfl rfl rfl (show SS _ _ _ (.rt ((ePair T.int (eTup (ePair T.int T.int))) r.1) false [.io ((eLst T.int) r.2), .un, .un, .un, .un, .un, .un, .un, .un, .un]) from (by unfold p_Llaw_results at h; exact (R.bindE h fun take1 h_take1 h => ss_cons (s_set (e_callio rfl rfl (es_cons e_k es_nil) rfl (F_Llaw_take (n + 1) pool 3 _ h_take1)) rfl) (R.bindE h fun order2 h_order2 h => ss_cons (s_set (e_callio rfl rfl (es_cons (e_var rfl) es_nil) rfl (F_Llaw_order (n + 0) take1.2 many _ h_order2)) rfl) (ss_cons (s_seto (e_lst es_nil) rfl rfl) (R.bindE h fun pairs3 h_pairs3 h => R.bindE h fun m17 h_m17 h => ss_cons (s_for (Sf := fun (m4 : List Int × List (Int × Int)) => ([.io ((eLst T.int) m4.1), .sh (T.int many), .sh (T.int take1.1), .sh ((eTup T.int) order2.1), .ow ((eLst (ePair T.int T.int)) m4.2), .un, .un, .un, .un, .un] : List KV)) (c := (ePair T.int T.int)) h_m17 (i_ex (e_call rfl (es_cons (e_var rfl) es_nil) (F_Llaw_pairs (n + 1) many _ h_pairs3)) (seq_lst _)) (by exact (wc kr (wc kr (wc kr (wc kr (wc kr (wc kr (wc kr (wc kr (wc kr (wc kr w0))))))))))) (fun w5 m4 _ h => ⟨_, (g_tp (gs_cons (g_nm rfl) (gs_cons (g_nm rfl) gs_nil))), R.bindE h fun x6 h_x6 h => R.bindE h fun x7 h_x7 h => ss_cons (s_two (e_idx (os_var (.sh rfl) (os_var (.sh rfl) os_nil (.sh rfl)) (.sh rfl)) (idx_tup' h_x6)) (e_idx (os_var (.sh rfl) (os_var (.sh rfl) os_nil (.sh rfl)) (.sh rfl)) (idx_tup' h_x7)) (g2_sh rfl) (g2_sh rfl)) (R.bindE h fun take8 h_take8 h => R.bindE h fun turned9 h_turned9 h => ss_cons (s_set (E.to (e_cmp (os_val (e_callio rfl rfl (es_cons e_k es_nil) rfl (F_Llaw_take (n + 1) m4.1 2 _ h_take8)) rfl (os_val e_k rfl os_nil)) (eq_op eqInt take8.1 0)) (congrArg T.bl (R.okS h_turned9))) rfl) (R.bindE h fun m10 h_m10 h => ss_cons (show S _ _ _ (.nx [.io ((eLst T.int) m10.1), .sh (T.int many), .sh (T.int take1.1), .sh ((eTup T.int) order2.1), .ow ((eLst (ePair T.int T.int)) m4.2), .sh (T.int w5.1), .sh (T.int w5.2), .sh (T.bl m10.2), .sh (T.int x6), .sh (T.int x7)]) from R.iteE h_m10 (fun hp h => s_it (t_e (e_cmp (os_var (.sh rfl) (os_val e_k rfl os_nil) (.sh rfl)) (eq_op eqInt take1.1 1)) (tru_bl _) rfl) hp (R.bindE h fun take11 h_take11 h => R.bindE h fun turned12 h_turned12 h => ss_cons (s_set (E.to (e_cmp (os_val (e_callio rfl rfl (es_cons e_k es_nil) rfl (F_Llaw_take (n + 1) take8.2 7 _ h_take11)) rfl (os_val e_k rfl os_nil)) (eq_op eqInt take11.1 0)) (congrArg T.bl (R.okS h_turned12))) rfl) (R.okE h (ss_nil (by exact (wc kr (wc kr (wc kr (wc kr (wc kr (wc kr (wc kr (wc kr (wc kr (wc kr w0))))))))))))))) (fun hn h => s_if (t_e (e_cmp (os_var (.sh rfl) (os_val e_k rfl os_nil) (.sh rfl)) (eq_op eqInt take1.1 1)) (tru_bl _) rfl) hn (R.okE h (ss_nil (by exact (wc kr (wc kr (wc kr (wc kr (wc kr (wc kr (wc kr (wc kr (wc kr (wc kr w0))))))))))))))) (R.bindE h fun m13 h_m13 h => ss_cons (show S _ _ _ (.nx [.io ((eLst T.int) m13.1), .sh (T.int many), .sh (T.int take1.1), .sh ((eTup T.int) order2.1), .ow ((eLst (ePair T.int T.int)) m4.2), .sh (T.int w5.1), .sh (T.int w5.2), .sh (T.bl m13.2), .sh (T.int x6), .sh (T.int x7)]) from R.iteE h_m13 (fun hp h => s_it (t_e (e_cmp (os_var (.sh rfl) (os_val e_k rfl os_nil) (.sh rfl)) (eq_op eqInt take1.1 2)) (tru_bl _) rfl) hp (R.bindE h fun b15 h_b15 h => ss_cons (s_set (e_and (t := .bl b15.1) (f2 := false) (st2 := [.io ((eLst T.int) b15.2), .sh (T.int many), .sh (T.int take1.1), .sh ((eTup T.int) order2.1), .ow ((eLst (ePair T.int T.int)) m4.2), .sh (T.int w5.1), .sh (T.int w5.2), .sh (T.bl m10.2), .sh (T.int x6), .sh (T.int x7)]) (e_cmp (os_val (e_bin (os_var (.sh rfl) (os_var (.sh rfl) os_nil (.sh rfl)) (.sh rfl)) (sub_op _ _)) rfl (os_val e_k rfl os_nil)) (gt_op _ _)) (fun hp => have h := R.ifT h_b15 hp; R.bindE h fun take14 h_take14 h => R.okE h (E.toSt (E.nofr (e_cmp (os_val (e_callio rfl rfl (es_cons e_k es_nil) rfl (F_Llaw_take (n + 1) m10.1 3 _ h_take14)) rfl (os_val e_k rfl os_nil)) (gt_op _ _))) rfl)) (fun hq => R.okE (R.ifF h_b15 hq) ⟨rfl, wr⟩)) rfl) (R.okE h (ss_nil (by exact (wc kr (wc kr (wc kr (wc kr (wc kr (wc kr (wc kr (wc kr (wc kr (wc kr w0))))))))))))))) (fun hn h => s_if (t_e (e_cmp (os_var (.sh rfl) (os_val e_k rfl os_nil) (.sh rfl)) (eq_op eqInt take1.1 2)) (tru_bl _) rfl) hn (R.okE h (ss_nil (by exact (wc kr (wc kr (wc kr (wc kr (wc kr (wc kr (wc kr (wc kr (wc kr (wc kr w0))))))))))))))) (R.bindE h fun wins16 h_wins16 h => ss_cons (s_appR (c := (ePair T.int T.int)) (a := (if m13.2 then (x7, x6) else (x6, x7))) rfl (e_itev (c := (ePair T.int T.int)) (t_var (.sh rfl) (tru_bl _)) (fun _ => (E.nofr (e_tup (es_cons (e_var rfl) (es_cons (e_var rfl) es_nil))))) (fun _ => (E.nofr (e_tup (es_cons (e_var rfl) (es_cons (e_var rfl) es_nil)))))) rfl h_wins16) (R.okE h (ss_nil (by exact (wc kr (wc kr (wc kr (wc kr (wc kr (wc ksu (wc ksu (wc ksu (wc ksu (wc ksu w0)))))))))))))))))⟩)) (R.okE h (ss_rtw (ss_rt (s_retn (e_tup (es_cons (e_var rfl) (es_cons (e_bif (os_val (e_bif (os_var (.ow rfl) os_nil (.ow rfl)) (sort_pairs _)) rfl os_nil) (tup_lst _)) es_nil))) rfl)) (by exact (wc kr (wc ksu (wc ksu (wc ksu (wc kou (wc kr (wc kr (wc kr (wc kr (wc kr w0))))))))))))))))))) rfl
/-- is_tuple_of(tup[int, seq[tup[int, int]]], int) -> bool -/
def p_is_tuple_of (value : Int × List (Int × Int)) (many : Int) : Bool := (decide (2 = (many : Int)))
theorem F_is_tuple_of (n : Nat) (value : Int × List (Int × Int)) (many : Int) : Cal (ctx prog WH (n + 1)) f_is_tuple_of [((ePair T.int (eTup (ePair T.int T.int))) value), (T.int many)] (T.bl (p_is_tuple_of value many)) false none :=
  show Cal _ _ _ (T.bl (decide (2 = (many : Int)))) _ _ from cal_rt (d := d_is_tuple_of) (st0 := [.sh ((ePair T.int (eTup (ePair T.int T.int))) value), .sh (T.int many)]) rfl rfl rfl (ss_rtw (ss_rt (s_retn (e_and (e_isi (os_var (.sh rfl) os_nil (.sh rfl)) rfl) (fun _ => (e_cmp (os_val (e_bif (os_var (.sh rfl) os_nil (.sh rfl)) rfl) rfl (os_var (.sh rfl) os_nil (.sh rfl))) (eq_op eqInt 2 many))) (fun z => nomatch z)) rfl)) (by exact (wc ksu (wc ksu w0)))) rfl
/-- is_tuple_of(tup[int, int], int) -> bool -/
def p_is_tuple_of_1 (value : Int × Int) (many : Int) : Bool := (decide (2 = (many : Int)))
theorem F_is_tuple_of_1 (n : Nat) (value : Int × Int) (many : Int) : Cal (ctx prog WH (n + 1)) f_is_tuple_of [((ePair T.int T.int) value), (T.int many)] (T.bl (p_is_tuple_of_1 value many)) false none :=
  show Cal _ _ _ (T.bl (decide (2 = (many : Int)))) _ _ from cal_rt (d := d_is_tuple_of) (st0 := [.sh ((ePair T.int T.int) value), .sh (T.int many)]) rfl rfl rfl (ss_rtw (ss_rt (s_retn (e_and (e_isi (os_var (.sh rfl) os_nil (.sh rfl)) rfl) (fun _ => (e_cmp (os_val (e_bif (os_var (.sh rfl) os_nil (.sh rfl)) rfl) rfl (os_var (.sh rfl) os_nil (.sh rfl))) (eq_op eqInt 2 many))) (fun z => nomatch z)) rfl)) (by exact (wc ksu (wc ksu w0)))) rfl
/-- is_win(int, tup[int, int]) -> bool -/
def p_is_win (many : Int) (value : Int × Int) : R Bool := if ((!(p_is_tuple_of_1 value 2)) || ((!(p_is_between value.1 0 (many - 1))) || (!(p_is_between value.2 0 (many - 1))))) then .ok false else .ok (!(decide (value.1 = (value.2 : Int))))
theorem F_is_win (n : Nat) (many : Int) (value : Int × Int) : ∀ r, p_is_win many value = .ok r → Cal (ctx prog WH (n + 3)) f_is_win [(T.int many), ((ePair T.int T.int) value)] (T.bl r) false none := fun r h =>
  cal_rt (d := d_is_win) (st0 := [.sh (T.int many), .sh ((ePair T.int T.int) value)]) (st := [.un, .un]) rfl rfl rfl (show SS _ _ _ (.rt (T.bl r) false [.un, .un]) from (by unfold p_is_win at h; exact (R.iteE h (fun hp h => R.okE h (ss_rt (s_it (t_or' (t_not (t_e (e_call rfl (es_cons (e_var rfl) (es_cons e_k es_nil)) (F_is_tuple_of_1 (n + 1) value 2)) (tru_bl _) rfl)) (fun _ => (t_or' (t_not (t_e (e_call rfl (es_cons (e_idx (os_var (.sh rfl) (os_val e_k rfl os_nil) (.sh rfl)) rfl) (es_cons e_k (es_cons (e_bin (os_var (.sh rfl) (os_val e_k rfl os_nil) (.sh rfl)) (sub_op _ _)) es_nil))) (F_is_between (n + 0) value.1 0 (many - 1))) (tru_bl _) rfl)) (fun _ => (t_not (t_e (e_call rfl (es_cons (e_idx (os_var (.sh rfl) (os_val e_k rfl os_nil) (.sh rfl)) rfl) (es_cons e_k (es_cons (e_bin (os_var (.sh rfl) (os_val e_k rfl os_nil) (.sh rfl)) (sub_op _ _)) es_nil))) (F_is_between (n + 0) value.2 0 (many - 1))) (tru_bl _) rfl)))))) hp (ss_rtw (ss_rt (s_retn e_k rfl)) (by exact (wc ksu (wc ksu w0))))))) (fun hn h => ss_cons (s_if (t_or' (t_not (t_e (e_call rfl (es_cons (e_var rfl) (es_cons e_k es_nil)) (F_is_tuple_of_1 (n + 1) value 2)) (tru_bl _) rfl)) (fun _ => (t_or' (t_not (t_e (e_call rfl (es_cons (e_idx (os_var (.sh rfl) (os_val e_k rfl os_nil) (.sh rfl)) rfl) (es_cons e_k (es_cons (e_bin (os_var (.sh rfl) (os_val e_k rfl os_nil) (.sh rfl)) (sub_op _ _)) es_nil))) (F_is_between (n + 0) value.1 0 (many - 1))) (tru_bl _) rfl)) (fun _ => (t_not (t_e (e_call rfl (es_cons (e_idx (os_var (.sh rfl) (os_val e_k rfl os_nil) (.sh rfl)) rfl) (es_cons e_k (es_cons (e_bin (os_var (.sh rfl) (os_val e_k rfl os_nil) (.sh rfl)) (sub_op _ _)) es_nil))) (F_is_between (n + 0) value.2 0 (many - 1))) (tru_bl _) rfl)))))) hn (ss_nil wr)) (R.okE h (ss_rtw (ss_rt (s_retn (e_cmp (os_val (e_idx (os_var (.sh rfl) (os_val e_k rfl os_nil) (.sh rfl)) rfl) rfl (os_val (e_idx (os_var (.sh rfl) (os_val e_k rfl os_nil) (.sh rfl)) rfl) rfl os_nil)) (ne_op eqInt value.1 value.2)) rfl)) (by exact (wc ksu (wc ksu w0))))))))) rfl
/-- are_rising(seq[tup[int, int]]) -> bool -/
def p_are_rising (value : List (Int × Int)) : R Bool := (R.rng 1 (value.length : Int)).bind fun r1 =>
    (R.mapR (β := Bool) (fun (index2 : Int) =>
    (R.idx (value : List (Int × Int)) (index2 - 1)).bind fun x3 =>
    (R.idx (value : List (Int × Int)) index2).bind fun x4 => .ok (lexP x3 x4)) r1).bind fun l5 =>
    (R.cap l5).bind fun c6 => .ok (l5.all id)
theorem F_are_rising (n : Nat) (value : List (Int × Int)) : ∀ r, p_are_rising value = .ok r → Cal (ctx prog WH (n + 1)) f_are_rising [((eTup (ePair T.int T.int)) value)] (T.bl r) false none := fun r h =>
  cal_rt (d := d_are_rising) (st0 := [.sh ((eTup (ePair T.int T.int)) value), .un]) (st := [.un, .un]) rfl rfl rfl (show SS _ _ _ (.rt (T.bl r) false [.un, .un]) from (by unfold p_are_rising at h; exact (R.bindE h fun r1 h_r1 h => R.bindE h fun l5 h_l5 h => R.bindE h fun c6 h_c6 h => R.okE h (ss_rtw (ss_rt (s_retn (e_bif (os_val (e_compM (c := T.int) (d := T.bl) h_l5 (i_r2 (os_val e_k rfl (os_val (e_bif (os_var (.sh rfl) os_nil (.sh rfl)) (len_tup _)) rfl os_nil)) (rng_op h_r1)) rfl (fun index2 _ h => R.bindE h fun x3 h_x3 h => R.bindE h fun x4 h_x4 h => R.okE h (trn (g_nm rfl) ts_nil (fun _ => (e_cmp (os_val (e_idx (os_var (.sh rfl) (os_val (e_bin (os_var (.sh rfl) (os_val e_k rfl os_nil) (.sh rfl)) (sub_op _ _)) rfl os_nil) (.sh rfl)) (idx_tup' h_x3)) rfl (os_val (e_idx (os_var (.sh rfl) (os_var (.sh rfl) os_nil (.sh rfl)) (.sh rfl)) (idx_tup' h_x4)) rfl os_nil)) (lt_pair x3 x4))) rfl rfl)) (R.capE h_c6)) rfl os_nil) (all_lst _)) rfl)) (by exact (wc ksu (wc kr w0))))))) rfl
/-- are_wins(int, seq[tup[int, int]]) -> bool -/
def p_are_wins (many : Int) (value : List (Int × Int)) : R Bool := (R.mapR (β := Bool) (fun (each1 : Int × Int) =>
    (p_is_win many each1).bind fun is_win2 => .ok is_win2) value).bind fun l3 =>
    (R.cap l3).bind fun c4 =>
    (if (!(l3.all id)) then .ok true else (p_are_rising value).bind fun are_rising5 => .ok (!are_rising5)).bind fun b6 => if b6 then .ok false else (R.cap value).bind fun c8 => .ok (!(((value.map fun (w7 : Int × Int) =>
    (pmem (w7.2, w7.1) (value : List (Int × Int))))).any id))
theorem F_are_wins (n : Nat) (many : Int) (value : List (Int × Int)) : ∀ r, p_are_wins many value = .ok r → Cal (ctx prog WH (n + 4)) f_are_wins [(T.int many), ((eTup (ePair T.int T.int)) value)] (T.bl r) false none := fun r h =>
  cal_rt (d := d_are_wins) (st0 := [.sh (T.int many), .sh ((eTup (ePair T.int T.int)) value), .un, .un, .un]) (st := [.un, .un, .un, .un, .un]) rfl rfl rfl (show SS _ _ _ (.rt (T.bl r) false [.un, .un, .un, .un, .un]) from (by unfold p_are_wins at h; exact (R.bindE h fun l3 h_l3 h => R.bindE h fun c4 h_c4 h => R.bindE h fun b6 h_b6 h => R.iteE h (fun hp h => R.okE h (ss_rt (s_it (t_or (t_not (b := true) (t_e (e_isi (os_var (.sh rfl) os_nil (.sh rfl)) rfl) (tru_bl _) rfl)) (fun z => nomatch z) (fun _ => (t_or (q := b6) (t_not (t_e (e_bif (os_val (e_compM (c := (ePair T.int T.int)) (d := T.bl) h_l3 (i_ex (e_var rfl) (seq_tup _)) rfl (fun each1 _ h => R.bindE h fun is_win2 h_is_win2 h => R.okE h (trn (g_nm rfl) ts_nil (fun _ => (e_call rfl (es_cons (e_var rfl) (es_cons (e_var rfl) es_nil)) (F_is_win (n + 0) many each1 _ h_is_win2))) rfl rfl)) (R.capE h_c4)) rfl os_nil) (all_lst _)) (tru_bl _) rfl)) (fun hp => ⟨(R.okS (R.ifT h_b6 hp)).symm, wr⟩) (fun hn => have h := R.ifF h_b6 hn; R.bindE h fun are_rising5 h_are_rising5 h => R.okE h (t_not (t_e (e_call rfl (es_cons (e_var rfl) es_nil) (F_are_rising (n + 2) value _ h_are_rising5)) (tru_bl _) rfl)))))) hp (ss_rtw (ss_rt (s_retn e_k rfl)) (by exact (wc ksu (wc ksu (wc kr (wc kr (wc kr w0)))))))))) (fun hn h => ss_cons (s_if (t_or (t_not (b := true) (t_e (e_isi (os_var (.sh rfl) os_nil (.sh rfl)) rfl) (tru_bl _) rfl)) (fun z => nomatch z) (fun _ => (t_or (q := b6) (t_not (t_e (e_bif (os_val (e_compM (c := (ePair T.int T.int)) (d := T.bl) h_l3 (i_ex (e_var rfl) (seq_tup _)) rfl (fun each1 _ h => R.bindE h fun is_win2 h_is_win2 h => R.okE h (trn (g_nm rfl) ts_nil (fun _ => (e_call rfl (es_cons (e_var rfl) (es_cons (e_var rfl) es_nil)) (F_is_win (n + 0) many each1 _ h_is_win2))) rfl rfl)) (R.capE h_c4)) rfl os_nil) (all_lst _)) (tru_bl _) rfl)) (fun hp => ⟨(R.okS (R.ifT h_b6 hp)).symm, wr⟩) (fun hn => have h := R.ifF h_b6 hn; R.bindE h fun are_rising5 h_are_rising5 h => R.okE h (t_not (t_e (e_call rfl (es_cons (e_var rfl) es_nil) (F_are_rising (n + 2) value _ h_are_rising5)) (tru_bl _) rfl)))))) hn (ss_nil wr)) (R.bindE h fun c8 h_c8 h => R.okE h (ss_rtw (ss_rt (s_retn (e_not (os_val (e_bif (os_val (e_compm (c := (ePair T.int T.int)) (d := T.bl) (l := value) (g := fun (w7 : Int × Int) => (pmem (w7.2, w7.1) (value : List (Int × Int)))) (i_ex (e_var rfl) (seq_tup _)) rfl (fun w7 => trn (g_tp (gs_cons (g_nm rfl) (gs_cons (g_nm rfl) gs_nil))) ts_nil (fun _ => (e_cmp (os_val (e_tup (es_cons (e_var rfl) (es_cons (e_var rfl) es_nil))) rfl (os_var (.sh rfl) os_nil (.sh rfl))) (in_tup (eqPair eqInt eqInt) (w7.2, w7.1) value))) rfl rfl) (R.capE h_c8)) rfl os_nil) (any_lst _)) rfl os_nil) (tru_bl _)) rfl)) (by exact (wc ksu (wc ksu (wc kr (wc kr (wc kr w0)))))))))))) rfl
/-- are_games_by(tup[int, seq[tup[int, int]]]) -> bool -/
def p_are_games_by (value : Int × List (Int × Int)) : R Bool := if ((!(p_is_tuple_of value 2)) || (!(p_is_between value.1 1 8))) then .ok false else (p_are_wins value.1 value.2).bind fun are_wins1 => .ok are_wins1
theorem F_are_games_by (n : Nat) (value : Int × List (Int × Int)) : ∀ r, p_are_games_by value = .ok r → Cal (ctx prog WH (n + 5)) f_are_games_by [((ePair T.int (eTup (ePair T.int T.int))) value)] (T.bl r) false none := fun r h =>
  cal_rt (d := d_are_games_by) (st0 := [.sh ((ePair T.int (eTup (ePair T.int T.int))) value)]) (st := [.un]) rfl rfl rfl (show SS _ _ _ (.rt (T.bl r) false [.un]) from (by unfold p_are_games_by at h; exact (R.iteE h (fun hp h => R.okE h (ss_rt (s_it (t_or' (t_not (t_e (e_call rfl (es_cons (e_var rfl) (es_cons e_k es_nil)) (F_is_tuple_of (n + 3) value 2)) (tru_bl _) rfl)) (fun _ => (t_not (t_e (e_call rfl (es_cons (e_idx (os_var (.sh rfl) (os_val (e_glb rfl) rfl os_nil) (.sh rfl)) rfl) (es_cons e_k (es_cons (e_glb rfl) es_nil))) (F_is_between (n + 2) value.1 1 8)) (tru_bl _) rfl)))) hp (ss_rtw (ss_rt (s_retn e_k rfl)) (by exact (wc ksu w0)))))) (fun hn h => ss_cons (s_if (t_or' (t_not (t_e (e_call rfl (es_cons (e_var rfl) (es_cons e_k es_nil)) (F_is_tuple_of (n + 3) value 2)) (tru_bl _) rfl)) (fun _ => (t_not (t_e (e_call rfl (es_cons (e_idx (os_var (.sh rfl) (os_val (e_glb rfl) rfl os_nil) (.sh rfl)) rfl) (es_cons e_k (es_cons (e_glb rfl) es_nil))) (F_is_between (n + 2) value.1 1 8)) (tru_bl _) rfl)))) hn (ss_nil wr)) (R.bindE h fun are_wins1 h_are_wins1 h => R.okE h (ss_rtw (ss_rt (s_retn (e_call rfl (es_cons (e_idx (os_var (.sh rfl) (os_val (e_glb rfl) rfl os_nil) (.sh rfl)) rfl) (es_cons (e_idx (os_var (.sh rfl) (os_val (e_glb rfl) rfl os_nil) (.sh rfl)) rfl) es_nil)) (F_are_wins (n + 0) value.1 value.2 _ h_are_wins1)) rfl)) (by exact (wc ksu w0)))))))) rfl
/-- check_games(tup[int, seq[tup[int, int]]]) -> non -/
def p_check_games (value : Int × List (Int × Int)) : R Unit := (p_are_games_by value).bind fun are_games_by1 => if (!are_games_by1) then .ex 1 .non else .ok ()
theorem F_check_games (n : Nat) (value : Int × List (Int × Int)) : ∀ r, p_check_games value = .ok r → Cal (ctx prog WH (n + 6)) f_check_games [((ePair T.int (eTup (ePair T.int T.int))) value)] T.non false none := fun r h =>
  cal_nx (d := d_check_games) (st0 := [.sh ((ePair T.int (eTup (ePair T.int T.int))) value)]) (st := [.un]) rfl rfl rfl (show SS _ _ _ (.nx [.un]) from (by unfold p_check_games at h; exact (R.bindE h fun are_games_by1 h_are_games_by1 h => R.iteE h (fun hp h => (nomatch h)) (fun hn h => ss_cons (s_if (t_not (t_e (e_call rfl (es_cons (e_var rfl) es_nil) (F_are_games_by (n + 0) value _ h_are_games_by1)) (tru_bl _) rfl)) hn (ss_nil wr)) (R.okE h (ss_nil (by exact (wc ksu w0)))))))) rfl
/-- players_of(tup[int, seq[tup[int, int]]]) -> lst[int] -/
def p_players_of (games : Int × List (Int × Int)) : R (List Int) := (R.rng 0 games.1).bind fun r1 => .ok r1
theorem F_players_of (n : Nat) (games : Int × List (Int × Int)) : ∀ r, p_players_of games = .ok r → Cal (ctx prog WH (n + 1)) f_players_of [((ePair T.int (eTup (ePair T.int T.int))) games)] ((eLst T.int) r) true none := fun r h =>
  cal_rt (d := d_players_of) (st0 := [.sh ((ePair T.int (eTup (ePair T.int T.int))) games)]) (st := [.un]) rfl rfl rfl (show SS _ _ _ (.rt ((eLst T.int) r) true [.un]) from (by unfold p_players_of at h; exact (R.bindE h fun r1 h_r1 h => R.okE h (ss_rtw (ss_rt (s_retf (e_lrng (i_r1 (os_val (e_idx (os_var (.sh rfl) (os_val (e_glb rfl) rfl os_nil) (.sh rfl)) rfl) rfl os_nil) (rng_op h_r1))) rfl rfl)) (by exact (wc ksu w0)))))) rfl
/-- points_by(tup[int, seq[tup[int, int]]]) -> seq[int] -/
def p_points_by (games : Int × List (Int × Int)) : R (List Int) := (p_players_of games).bind fun players_of1 =>
    (R.cap players_of1).bind fun c3 =>
    ((R.ok ((players_of1.map fun (x2 : Int) => 0)) : R (List Int))).bind fun found4 =>
    (R.fold (fun (m5 : List Int) (w6 : Int × Int) =>
    (R.idx (m5 : List Int) w6.1).bind fun x7 =>
    (R.setI m5 w6.1 (x7 + 1)).bind fun found8 => .ok found8) found4 games.2).bind fun m9 => .ok m9
theorem F_points_by (n : Nat) (games : Int × List (Int × Int)) : ∀ r, p_points_by games = .ok r → Cal (ctx prog WH (n + 2)) f_points_by [((ePair T.int (eTup (ePair T.int T.int))) games)] ((eTup T.int) r) false none := fun r h =>
  cal_rt (d := d_points_by) (st0 := [.sh ((ePair T.int (eTup (ePair T.int T.int))) games), .un, .un, .un]) (st := [.un, .un, .un, .un]) rfl rfl rfl (show SS _ _ _ (.rt ((eTup T.int) r) false [.un, .un, .un, .un]) from (by unfold p_points_by at h; exact (R.bindE h fun players_of1 h_players_of1 h => R.bindE h fun c3 h_c3 h => R.bindE h fun found4 h_found4 h => ss_cons (s_seto (E.to (e_compm (c := T.int) (d := T.int) (l := players_of1) (g := fun (x2 : Int) => 0) (i_ex (e_call rfl (es_cons (e_var rfl) es_nil) (F_players_of (n + 0) games _ h_players_of1)) (seq_lst _)) rfl (fun x2 => trn (g_nm rfl) ts_nil (fun _ => e_k) rfl rfl) (R.capE h_c3)) (congrArg (eLst T.int) (R.okS h_found4))) rfl rfl) (R.bindE h fun m9 h_m9 h => ss_cons (s_for (Sf := fun (m5 : List Int) => ([.sh ((ePair T.int (eTup (ePair T.int T.int))) games), .ow ((eLst T.int) m5), .un, .un] : List KV)) (c := (ePair T.int T.int)) h_m9 (i_ex (e_idx (os_var (.sh rfl) (os_val (e_glb rfl) rfl os_nil) (.sh rfl)) rfl) (seq_tup _)) (by exact (wc kr (wc kr (wc kr (wc kr w0))))) (fun w6 m5 _ h => ⟨_, (g_tp (gs_cons (g_nm rfl) (gs_cons (g_nm rfl) gs_nil))), R.bindE h fun x7 h_x7 h => R.bindE h fun found8 h_found8 h => ss_cons (s_sub (e_bin (os_val (e_idx (os_var (.ow rfl) (os_var (.sh rfl) os_nil (.sh rfl)) (.ow rfl)) (idx_lst' h_x7)) rfl (os_val e_k rfl os_nil)) (add_op _ _)) (fun _ => (g_set (c := T.int) (a := (x7 + 1)) rfl (os_var (.sh rfl) os_nil (.sh rfl)) rfl h_found8))) (R.okE h (ss_nil (by exact (wc kr (wc kr (wc ksu (wc ksu w0)))))))⟩)) (R.okE h (ss_rtw (ss_rt (s_retn (e_bif (os_var (.ow rfl) os_nil (.ow rfl)) (tup_lst _)) rfl)) (by exact (wc ksu (wc kou (wc kr (wc kr w0))))))))))) rfl
/-- points(tup[int, seq[tup[int, int]]]) -> seq[int] -/
def p_points (games : Int × List (Int × Int)) : R (List Int) := (p_check_games games).bind fun check_games1 =>
    (p_points_by games).bind fun points_by2 => .ok points_by2
theorem F_points (n : Nat) (games : Int × List (Int × Int)) : ∀ r, p_points games = .ok r → Cal (ctx prog WH (n + 7)) f_points [((ePair T.int (eTup (ePair T.int T.int))) games)] ((eTup T.int) r) false none := fun r h =>
  cal_rt (d := d_points) (st0 := [.sh ((ePair T.int (eTup (ePair T.int T.int))) games)]) (st := [.un]) rfl rfl rfl (show SS _ _ _ (.rt ((eTup T.int) r) false [.un]) from (by unfold p_points at h; exact (R.bindE h fun check_games1 h_check_games1 h => ss_cons (s_exp (e_call rfl (es_cons (e_var rfl) es_nil) (F_check_games (n + 0) games _ h_check_games1))) (R.bindE h fun points_by2 h_points_by2 h => R.okE h (ss_rtw (ss_rt (s_retn (e_call rfl (es_cons (e_var rfl) es_nil) (F_points_by (n + 4) games _ h_points_by2)) rfl)) (by exact (wc ksu w0))))))) rfl
/-- law(scr) -> bool -/
def p_law (script : List Int) : R Bool := (R.rng 0 (if (if (script.length : Int) > 5 then (script.length : Int) else 5) < 20 then (if (script.length : Int) > 5 then (script.length : Int) else 5) else 20)).bind fun r1 =>
    (R.foldF (ρ := Bool) (fun (m2 : Unit) (turn3 : Int) =>
    (p_Llaw_pool script turn3).bind fun pool4 =>
    (p_Llaw_take pool4 8).bind fun take5 =>
    ((R.ok ((1 + take5.1)) : R Int)).bind fun many6 =>
    (p_Llaw_pairs many6).bind fun pairs7 =>
    (R.eachS (β := Int) (fun (m10 : (List Int)) (pair11 : Int × Int) =>
    (p_Llaw_take m10 3).bind fun take12 => .ok (take12.2, [take12.1])) take5.2 pairs7).bind fun l13 =>
    (R.cap l13.2).bind fun c14 =>
    (R.eachS (β := Int) (fun (m17 : (List Int)) (pair18 : Int × Int) =>
    (p_Llaw_take m17 2).bind fun take19 => .ok (take19.2, [(2 * take19.1)])) l13.1 pairs7).bind fun l20 =>
    (R.cap l20.2).bind fun c21 =>
    (p_Llaw_take l20.1 3).bind fun take22 =>
    (R.repT [take22.1] (pairs7.length : Int)).bind fun c23 =>
    (R.foldF (ρ := Bool) (fun (m24 : Unit) (halves25 : List Int) =>
    (p_Llaw_sum_of many6 halves25).bind fun sum_of26 =>
    (p_halves_points many6 halves25).bind fun halves_points27 =>
    (p_halves_points many6 halves25).bind fun halves_points28 =>
    (p_Llaw_alike ((ePair (eTup T.int) (eTup T.int)) (halves_points27, halves_points28)) ((ePair (eTup T.int) (eTup T.int)) (sum_of26, sum_of26))).bind fun alike29 =>
    (if (!alike29) then .ok true else (p_own_games many6).bind fun own_games30 =>
    (if (!(decide (sum_of26.sum = ((2 * own_games30) : Int)))) then .ok true else (p_is_halves_list sum_of26).bind fun is_halves_list31 => .ok (!(decide (is_halves_list31 = true)))).bind fun b32 => .ok b32).bind fun b33 => if b33 then .ok (.rt false) else (R.cap halves25).bind fun c35 =>
    ((R.ok ((halves25.map fun (each34 : Int) =>
    (2 - each34))) : R (List Int))).bind fun back36 =>
    (p_halves_points many6 back36).bind fun halves_points37 =>
    (R.cap sum_of26).bind fun c39 =>
    (p_Llaw_alike ((eTup T.int) halves_points37) ((eTup T.int) (sum_of26.map fun (each38 : Int) =>
    ((2 * (many6 - 1)) - each38)))).bind fun alike40 => if (!alike40) then .ok (.rt false) else .ok (.nx ())) () ([l13.2, l20.2, c23])).bind fun o41 => o41.then (fun r42 => .ok (.rt r42)) (fun m43 =>
    (p_Llaw_results take22.2 many6).bind fun results44 =>
    (R.cap pairs7).bind fun c46 =>
    ((R.ok ((pairs7.map fun (pair45 : Int × Int) =>
    (2 * (if (pmem pair45 (results44.1.2 : List (Int × Int))) then 1 else 0)))) : R (List Int))).bind fun told47 =>
    (p_halves_points many6 told47).bind fun halves_points48 =>
    (p_points results44.1).bind fun points49 =>
    (R.cap points49).bind fun c51 =>
    (p_Llaw_alike ((eTup T.int) halves_points48) ((eTup T.int) (points49.map fun (each50 : Int) =>
    (2 * each50)))).bind fun alike52 =>
    (if (!alike52) then .ok true else (R.repT [1] (pairs7.length : Int)).bind fun c53 =>
    (p_halves_points many6 c53).bind fun halves_points54 =>
    (R.repT ([(many6 - 1)]) many6).bind fun c55 =>
    (p_Llaw_alike ((eTup T.int) halves_points54) ((eTup T.int) c55)).bind fun alike56 => .ok (!alike56)).bind fun b57 => if b57 then .ok (.rt false) else .ok (.nx ()))) () r1).bind fun o58 => o58.then (fun r59 => .ok r59) (fun m60 =>
    (p_halves_points 1 []).bind fun halves_points61 =>
    (p_Llaw_alike ((eTup T.int) halves_points61) ((eP1 T.int) 0)).bind fun alike62 => .ok alike62)
theorem F_law (n : Nat) (script : List Int) : ∀ r, p_law script = .ok r → Cal (ctx prog WH (n + 15)) f_law [(eScr script)] (T.bl r) false none := fun r h =>
  cal_rt (d := d_law) (st0 := [.sh (eScr script), .un, .un, .un, .un, .un, .un, .un, .un, .un, .un, .un]) (st := [.un, .un, .un, .un, .un, .un, .un, .un, .un, .un, .un, .un]) rfl rfl rfl (show SS _ _ _ (.rt (T.bl r) false [.un, .un, .un, .un, .un, .un, .un, .un, .un, .un, .un, .un]) from (by unfold p_law at h; exact (R.bindE h fun r1 h_r1 h => R.bindE h fun o58 h_o58 h => R.lpE h (fun r59 e h => R.okE h (ss_rt (S.lpRt (s_forF (Sf := fun (m2 : Unit) => ([.sh (eScr script), .un, .un, .un, .un, .un, .un, .un, .un, .un, .un, .un] : List KV)) (Rt := (fun (r : Bool) => ((T.bl r), false, [.un, .un, .un, .un, .un, .un, .un, .un, .un, .un, .un, .un]))) (c := T.int) h_o58 (i_r1 (os_val (e_bif (os_val e_k rfl (os_val (e_bif (os_val e_k rfl (os_val (e_bif (os_var (.sh rfl) os_nil (.sh rfl)) (len_scr _)) rfl os_nil)) (max2_op _ _)) rfl os_nil)) (min2_op _ _)) rfl os_nil) (rng_op h_r1)) (by exact (wc kr (wc kr (wc kr (wc kr (wc kr (wc kr (wc kr (wc kr (wc kr (wc kr (wc kr (wc kr w0))))))))))))) (fun turn3 m2 _ h => ⟨_, (g_nm rfl), R.bindE h fun pool4 h_pool4 h => ss_cons (s_seto (e_call rfl (es_cons (e_var rfl) (es_cons (e_var rfl) es_nil)) (F_Llaw_pool (n + 13) script turn3 _ h_pool4)) rfl rfl) (R.bindE h fun take5 h_take5 h => R.bindE h fun many6 h_many6 h => ss_cons (s_set (E.to (e_bin (os_val e_k rfl (os_val (e_callow rfl rfl (es_cons e_k es_nil) rfl (F_Llaw_take (n + 13) pool4 8 _ h_take5)) rfl os_nil)) (add_op _ _)) (congrArg T.int (R.okS h_many6))) rfl) (R.bindE h fun pairs7 h_pairs7 h => ss_cons (s_seto (e_call rfl (es_cons (e_var rfl) es_nil) (F_Llaw_pairs (n + 13) many6 _ h_pairs7)) rfl rfl) (R.bindE h fun l13 h_l13 h => R.bindE h fun c14 h_c14 h => R.bindE h fun l20 h_l20 h => R.bindE h fun c21 h_c21 h => R.bindE h fun take22 h_take22 h => R.bindE h fun c23 h_c23 h => R.bindE h fun o41 h_o41 h => R.lpE h (fun r42 e h => R.okE h (ss_wk (by exact (wc kr (wc kr (wc kr (wc kr (wc kos (wc kr (wc kr (wc kr (wc kr (wc kr (wc kr (wc kr w0))))))))))))) (ss_rt (S.lpRt (s_forF (Sf := fun (m24 : Unit) => ([.sh (eScr script), .sh (T.int turn3), .ow ((eLst T.int) take22.2), .sh (T.int many6), .sh ((eLst (ePair T.int T.int)) pairs7), .un, .un, .un, .un, .un, .un, .un] : List KV)) (Rt := (fun (r : Bool) => ((T.bl r), false, [.un, .un, .un, .un, .un, .un, .un, .un, .un, .un, .un, .un]))) (c := (eTup T.int)) h_o41 (i_ex (E.to (u := ((eTup (eTup T.int)) [l13.2, l20.2, c23])) (e_tup (es_cons (e_bif (os_val (e_compS (c := (ePair T.int T.int)) (d := T.int) (S := fun (m10 : (List Int)) => ([.sh (eScr script), .sh (T.int turn3), .ow ((eLst T.int) m10), .sh (T.int many6), .sh ((eLst (ePair T.int T.int)) pairs7), .un, .un, .un, .un, .un, .un, .un] : List KV)) (st2 := [.sh (eScr script), .sh (T.int turn3), .ow ((eLst T.int) l13.1), .sh (T.int many6), .sh ((eLst (ePair T.int T.int)) pairs7), .un, .un, .un, .un, .un, .un, .un]) h_l13 (Go.toSt (i_ex (e_var rfl) (seq_lst _)) rfl) rfl (fun pair11 m10 _ _ h => R.bindE h fun take12 h_take12 h => R.okE2 h ⟨true, _, trnT (g_nm rfl) ts_nil rfl (e_callow rfl rfl (es_cons e_k es_nil) rfl (F_Llaw_take (n + 13) m10 3 _ h_take12)) rfl, rfl⟩) (R.capE h_c14) rfl) rfl os_nil) (tup_lst _)) (es_cons (e_bif (os_val (e_compS (c := (ePair T.int T.int)) (d := T.int) (S := fun (m17 : (List Int)) => ([.sh (eScr script), .sh (T.int turn3), .ow ((eLst T.int) m17), .sh (T.int many6), .sh ((eLst (ePair T.int T.int)) pairs7), .un, .un, .un, .un, .un, .un, .un] : List KV)) (st2 := [.sh (eScr script), .sh (T.int turn3), .ow ((eLst T.int) l20.1), .sh (T.int many6), .sh ((eLst (ePair T.int T.int)) pairs7), .un, .un, .un, .un, .un, .un, .un]) h_l20 (Go.toSt (i_ex (e_var rfl) (seq_lst _)) rfl) rfl (fun pair18 m17 _ _ h => R.bindE h fun take19 h_take19 h => R.okE2 h ⟨true, _, trnT (g_nm rfl) ts_nil rfl (e_bin (os_val e_k rfl (os_val (e_callow rfl rfl (es_cons e_k es_nil) rfl (F_Llaw_take (n + 13) m17 2 _ h_take19)) rfl os_nil)) (mul_lit (by decide))) rfl, rfl⟩) (R.capE h_c21) rfl) rfl os_nil) (tup_lst _)) (es_cons (e_bin (os_val (e_tup (es_cons (e_callow rfl rfl (es_cons e_k es_nil) rfl (F_Llaw_take (n + 13) l20.1 3 _ h_take22)) es_nil)) rfl (os_val (e_bif (os_var (.sh rfl) os_nil (.sh rfl)) (len_lst _)) rfl os_nil)) (rep_tup h_c23)) es_nil)))) rfl) (seq_tup _)) (by exact (wc kr (wc kr (wc kr (wc kr (wc kr (wc kr (wc kr (wc kr (wc kr (wc kr (wc kr (wc kr w0))))))))))))) (fun halves25 m24 _ h => ⟨_, (g_nm rfl), R.bindE h fun sum_of26 h_sum_of26 h => ss_cons (s_set (e_call rfl (es_cons (e_var rfl) (es_cons (e_var rfl) es_nil)) (F_Llaw_sum_of (n + 12) many6 halves25 _ h_sum_of26)) rfl) (R.bindE h fun halves_points27 h_halves_points27 h => R.bindE h fun halves_points28 h_halves_points28 h => R.bindE h fun alike29 h_alike29 h => R.bindE h fun b33 h_b33 h => R.iteE h (fun hp h => R.okE h (ss_rt (s_it (t_or (q := b33) (t_not (t_e (e_call rfl (es_cons (e_tup (es_cons (e_call rfl (es_cons (e_var rfl) (es_cons (e_var rfl) es_nil)) (F_halves_points (n + 8) many6 halves25 _ h_halves_points27)) (es_cons (e_callk rfl es_nil (es_cons (e_var rfl) (es_cons (e_var rfl) es_nil)) rfl (F_halves_points (n + 8) many6 halves25 _ h_halves_points28)) es_nil))) (es_cons (e_tup (es_cons (e_var rfl) (es_cons (e_var rfl) es_nil))) es_nil)) (F_Llaw_alike (n + 0) ((ePair (eTup T.int) (eTup T.int)) (halves_points27, halves_points28)) ((ePair (eTup T.int) (eTup T.int)) (sum_of26, sum_of26)) _ h_alike29)) (tru_bl _) rfl)) (fun hp => ⟨(R.okS (R.ifT h_b33 hp)).symm, wr⟩) (fun hn => have h := R.ifF h_b33 hn; R.bindE h fun own_games30 h_own_games30 h => R.bindE h fun b32 h_b32 h => R.okE h (t_or (q := b32) (t_e (e_cmp (os_val (e_bif (os_var (.sh rfl) os_nil (.sh rfl)) (sum_tup _)) rfl (os_val (e_bin (os_val e_k rfl (os_val (e_call rfl (es_cons (e_var rfl) es_nil) (F_own_games (n + 10) many6 _ h_own_games30)) rfl os_nil)) (mul_lit (by decide))) rfl os_nil)) (ne_op eqInt sum_of26.sum (2 * own_games30))) (tru_bl _) rfl) (fun hp => ⟨(R.okS (R.ifT h_b32 hp)).symm, wr⟩) (fun hn => have h := R.ifF h_b32 hn; R.bindE h fun is_halves_list31 h_is_halves_list31 h => R.okE h (t_e (e_cmp (os_val (e_call rfl (es_cons (e_var rfl) es_nil) (F_is_halves_list (n + 9) sum_of26 _ h_is_halves_list31)) rfl (os_val e_k rfl os_nil)) (isnt_bl _ _)) (tru_bl _) rfl))))) hp (ss_rtw (ss_rt (s_retn e_k rfl)) (by exact (wc ksu (wc ksu (wc kou (wc ksu (wc ksu (wc ksu (wc kr (wc kr (wc ksu (wc kr (wc kr (wc kr w0))))))))))))))))) (fun hn h => ss_cons (s_if (t_or (q := b33) (t_not (t_e (e_call rfl (es_cons (e_tup (es_cons (e_call rfl (es_cons (e_var rfl) (es_cons (e_var rfl) es_nil)) (F_halves_points (n + 8) many6 halves25 _ h_halves_points27)) (es_cons (e_callk rfl es_nil (es_cons (e_var rfl) (es_cons (e_var rfl) es_nil)) rfl (F_halves_points (n + 8) many6 halves25 _ h_halves_points28)) es_nil))) (es_cons (e_tup (es_cons (e_var rfl) (es_cons (e_var rfl) es_nil))) es_nil)) (F_Llaw_alike (n + 0) ((ePair (eTup T.int) (eTup T.int)) (halves_points27, halves_points28)) ((ePair (eTup T.int) (eTup T.int)) (sum_of26, sum_of26)) _ h_alike29)) (tru_bl _) rfl)) (fun hp => ⟨(R.okS (R.ifT h_b33 hp)).symm, wr⟩) (fun hn => have h := R.ifF h_b33 hn; R.bindE h fun own_games30 h_own_games30 h => R.bindE h fun b32 h_b32 h => R.okE h (t_or (q := b32) (t_e (e_cmp (os_val (e_bif (os_var (.sh rfl) os_nil (.sh rfl)) (sum_tup _)) rfl (os_val (e_bin (os_val e_k rfl (os_val (e_call rfl (es_cons (e_var rfl) es_nil) (F_own_games (n + 10) many6 _ h_own_games30)) rfl os_nil)) (mul_lit (by decide))) rfl os_nil)) (ne_op eqInt sum_of26.sum (2 * own_games30))) (tru_bl _) rfl) (fun hp => ⟨(R.okS (R.ifT h_b32 hp)).symm, wr⟩) (fun hn => have h := R.ifF h_b32 hn; R.bindE h fun is_halves_list31 h_is_halves_list31 h => R.okE h (t_e (e_cmp (os_val (e_call rfl (es_cons (e_var rfl) es_nil) (F_is_halves_list (n + 9) sum_of26 _ h_is_halves_list31)) rfl (os_val e_k rfl os_nil)) (isnt_bl _ _)) (tru_bl _) rfl))))) hn (ss_nil wr)) (R.bindE h fun c35 h_c35 h => R.bindE h fun back36 h_back36 h => ss_cons (s_set (E.to (e_bif (os_val (e_compm (c := T.int) (d := T.int) (l := halves25) (g := fun (each34 : Int) => (2 - each34)) (i_ex (e_var rfl) (seq_tup _)) rfl (fun each34 => trn (g_nm rfl) ts_nil (fun _ => (e_bin (os_val e_k rfl (os_var (.sh rfl) os_nil (.sh rfl))) (sub_op _ _))) rfl rfl) (R.capE h_c35)) rfl os_nil) (tup_lst _)) (congrArg (eTup T.int) (R.okS h_back36))) rfl) (R.bindE h fun halves_points37 h_halves_points37 h => R.bindE h fun c39 h_c39 h => R.bindE h fun alike40 h_alike40 h => R.iteE h (fun hp h => R.okE h (ss_rt (s_it (t_not (t_e (e_call rfl (es_cons (e_call rfl (es_cons (e_var rfl) (es_cons (e_var rfl) es_nil)) (F_halves_points (n + 8) many6 back36 _ h_halves_points37)) (es_cons (e_bif (os_val (e_compm (c := T.int) (d := T.int) (l := sum_of26) (g := fun (each38 : Int) => ((2 * (many6 - 1)) - each38)) (i_ex (e_var rfl) (seq_tup _)) rfl (fun each38 => trn (g_nm rfl) ts_nil (fun _ => (e_bin (os_val (e_bin (os_val e_k rfl (os_val (e_bin (os_var (.sh rfl) (os_val e_k rfl os_nil) (.sh rfl)) (sub_op _ _)) rfl os_nil)) (mul_lit (by decide))) rfl (os_var (.sh rfl) os_nil (.sh rfl))) (sub_op _ _))) rfl rfl) (R.capE h_c39)) rfl os_nil) (tup_lst _)) es_nil)) (F_Llaw_alike (n + 0) ((eTup T.int) halves_points37) ((eTup T.int) (sum_of26.map fun (each38 : Int) => ((2 * (many6 - 1)) - each38))) _ h_alike40)) (tru_bl _) rfl)) hp (ss_rtw (ss_rt (s_retn e_k rfl)) (by exact (wc ksu (wc ksu (wc kou (wc ksu (wc ksu (wc ksu (wc kr (wc kr (wc ksu (wc ksu (wc kr (wc kr w0))))))))))))))))) (fun hn h => ss_cons (s_if (t_not (t_e (e_call rfl (es_cons (e_call rfl (es_cons (e_var rfl) (es_cons (e_var rfl) es_nil)) (F_halves_points (n + 8) many6 back36 _ h_halves_points37)) (es_cons (e_bif (os_val (e_compm (c := T.int) (d := T.int) (l := sum_of26) (g := fun (each38 : Int) => ((2 * (many6 - 1)) - each38)) (i_ex (e_var rfl) (seq_tup _)) rfl (fun each38 => trn (g_nm rfl) ts_nil (fun _ => (e_bin (os_val (e_bin (os_val e_k rfl (os_val (e_bin (os_var (.sh rfl) (os_val e_k rfl os_nil) (.sh rfl)) (sub_op _ _)) rfl os_nil)) (mul_lit (by decide))) rfl (os_var (.sh rfl) os_nil (.sh rfl))) (sub_op _ _))) rfl rfl) (R.capE h_c39)) rfl os_nil) (tup_lst _)) es_nil)) (F_Llaw_alike (n + 0) ((eTup T.int) halves_points37) ((eTup T.int) (sum_of26.map fun (each38 : Int) => ((2 * (many6 - 1)) - each38))) _ h_alike40)) (tru_bl _) rfl)) hn (ss_nil wr)) (R.okE h (ss_nil (by exact (wc kr (wc kr (wc kr (wc kr (wc kr (wc ksu (wc kr (wc kr (wc ksu (wc ksu (wc kr (wc kr w0))))))))))))))))))))⟩)) e rfl)))) (fun m43 e h => ss_wk (by exact (wc kr (wc kr (wc kr (wc kr (wc kos (wc kr (wc kr (wc kr (wc kr (wc kr (wc kr (wc kr w0))))))))))))) (ss_cons (S.lpNx (s_forF (Sf := fun (m24 : Unit) => ([.sh (eScr script), .sh (T.int turn3), .ow ((eLst T.int) take22.2), .sh (T.int many6), .sh ((eLst (ePair T.int T.int)) pairs7), .un, .un, .un, .un, .un, .un, .un] : List KV)) (Rt := (fun (r : Bool) => ((T.bl r), false, [.un, .un, .un, .un, .un, .un, .un, .un, .un, .un, .un, .un]))) (c := (eTup T.int)) h_o41 (i_ex (E.to (u := ((eTup (eTup T.int)) [l13.2, l20.2, c23])) (e_tup (es_cons (e_bif (os_val (e_compS (c := (ePair T.int T.int)) (d := T.int) (S := fun (m10 : (List Int)) => ([.sh (eScr script), .sh (T.int turn3), .ow ((eLst T.int) m10), .sh (T.int many6), .sh ((eLst (ePair T.int T.int)) pairs7), .un, .un, .un, .un, .un, .un, .un] : List KV)) (st2 := [.sh (eScr script), .sh (T.int turn3), .ow ((eLst T.int) l13.1), .sh (T.int many6), .sh ((eLst (ePair T.int T.int)) pairs7), .un, .un, .un, .un, .un, .un, .un]) h_l13 (Go.toSt (i_ex (e_var rfl) (seq_lst _)) rfl) rfl (fun pair11 m10 _ _ h => R.bindE h fun take12 h_take12 h => R.okE2 h ⟨true, _, trnT (g_nm rfl) ts_nil rfl (e_callow rfl rfl (es_cons e_k es_nil) rfl (F_Llaw_take (n + 13) m10 3 _ h_take12)) rfl, rfl⟩) (R.capE h_c14) rfl) rfl os_nil) (tup_lst _)) (es_cons (e_bif (os_val (e_compS (c := (ePair T.int T.int)) (d := T.int) (S := fun (m17 : (List Int)) => ([.sh (eScr script), .sh (T.int turn3), .ow ((eLst T.int) m17), .sh (T.int many6), .sh ((eLst (ePair T.int T.int)) pairs7), .un, .un, .un, .un, .un, .un, .un] : List KV)) (st2 := [.sh (eScr script), .sh (T.int turn3), .ow ((eLst T.int) l20.1), .sh (T.int many6), .sh ((eLst (ePair T.int T.int)) pairs7), .un, .un, .un, .un, .un, .un, .un]) h_l20 (Go.toSt (i_ex (e_var rfl) (seq_lst _)) rfl) rfl (fun pair18 m17 _ _ h => R.bindE h fun take19 h_take19 h => R.okE2 h ⟨true, _, trnT (g_nm rfl) ts_nil rfl (e_bin (os_val e_k rfl (os_val (e_callow rfl rfl (es_cons e_k es_nil) rfl (F_Llaw_take (n + 13) m17 2 _ h_take19)) rfl os_nil)) (mul_lit (by decide))) rfl, rfl⟩) (R.capE h_c21) rfl) rfl os_nil) (tup_lst _)) (es_cons (e_bin (os_val (e_tup (es_cons (e_callow rfl rfl (es_cons e_k es_nil) rfl (F_Llaw_take (n + 13) l20.1 3 _ h_take22)) es_nil)) rfl (os_val (e_bif (os_var (.sh rfl) os_nil (.sh rfl)) (len_lst _)) rfl os_nil)) (rep_tup h_c23)) es_nil)))) rfl) (seq_tup _)) (by exact (wc kr (wc kr (wc kr (wc kr (wc kr (wc kr (wc kr (wc kr (wc kr (wc kr (wc kr (wc kr w0))))))))))))) (fun halves25 m24 _ h => ⟨_, (g_nm rfl), R.bindE h fun sum_of26 h_sum_of26 h => ss_cons (s_set (e_call rfl (es_cons (e_var rfl) (es_cons (e_var rfl) es_nil)) (F_Llaw_sum_of (n + 12) many6 halves25 _ h_sum_of26)) rfl) (R.bindE h fun halves_points27 h_halves_points27 h => R.bindE h fun halves_points28 h_halves_points28 h => R.bindE h fun alike29 h_alike29 h => R.bindE h fun b33 h_b33 h => R.iteE h (fun hp h => R.okE h (ss_rt (s_it (t_or (q := b33) (t_not (t_e (e_call rfl (es_cons (e_tup (es_cons (e_call rfl (es_cons (e_var rfl) (es_cons (e_var rfl) es_nil)) (F_halves_points (n + 8) many6 halves25 _ h_halves_points27)) (es_cons (e_callk rfl es_nil (es_cons (e_var rfl) (es_cons (e_var rfl) es_nil)) rfl (F_halves_points (n + 8) many6 halves25 _ h_halves_points28)) es_nil))) (es_cons (e_tup (es_cons (e_var rfl) (es_cons (e_var rfl) es_nil))) es_nil)) (F_Llaw_alike (n + 0) ((ePair (eTup T.int) (eTup T.int)) (halves_points27, halves_points28)) ((ePair (eTup T.int) (eTup T.int)) (sum_of26, sum_of26)) _ h_alike29)) (tru_bl _) rfl)) (fun hp => ⟨(R.okS (R.ifT h_b33 hp)).symm, wr⟩) (fun hn => have h := R.ifF h_b33 hn; R.bindE h fun own_games30 h_own_games30 h => R.bindE h fun b32 h_b32 h => R.okE h (t_or (q := b32) (t_e (e_cmp (os_val (e_bif (os_var (.sh rfl) os_nil (.sh rfl)) (sum_tup _)) rfl (os_val (e_bin (os_val e_k rfl (os_val (e_call rfl (es_cons (e_var rfl) es_nil) (F_own_games (n + 10) many6 _ h_own_games30)) rfl os_nil)) (mul_lit (by decide))) rfl os_nil)) (ne_op eqInt sum_of26.sum (2 * own_games30))) (tru_bl _) rfl) (fun hp => ⟨(R.okS (R.ifT h_b32 hp)).symm, wr⟩) (fun hn => have h := R.ifF h_b32 hn; R.bindE h fun is_halves_list31 h_is_halves_list31 h => R.okE h (t_e (e_cmp (os_val (e_call rfl (es_cons (e_var rfl) es_nil) (F_is_halves_list (n + 9) sum_of26 _ h_is_halves_list31)) rfl (os_val e_k rfl os_nil)) (isnt_bl _ _)) (tru_bl _) rfl))))) hp (ss_rtw (ss_rt (s_retn e_k rfl)) (by exact (wc ksu (wc ksu (wc kou (wc ksu (wc ksu (wc ksu (wc kr (wc kr (wc ksu (wc kr (wc kr (wc kr w0))))))))))))))))) (fun hn h => ss_cons (s_if (t_or (q := b33) (t_not (t_e (e_call rfl (es_cons (e_tup (es_cons (e_call rfl (es_cons (e_var rfl) (es_cons (e_var rfl) es_nil)) (F_halves_points (n + 8) many6 halves25 _ h_halves_points27)) (es_cons (e_callk rfl es_nil (es_cons (e_var rfl) (es_cons (e_var rfl) es_nil)) rfl (F_halves_points (n + 8) many6 halves25 _ h_halves_points28)) es_nil))) (es_cons (e_tup (es_cons (e_var rfl) (es_cons (e_var rfl) es_nil))) es_nil)) (F_Llaw_alike (n + 0) ((ePair (eTup T.int) (eTup T.int)) (halves_points27, halves_points28)) ((ePair (eTup T.int) (eTup T.int)) (sum_of26, sum_of26)) _ h_alike29)) (tru_bl _) rfl)) (fun hp => ⟨(R.okS (R.ifT h_b33 hp)).symm, wr⟩) (fun hn => have h := R.ifF h_b33 hn; R.bindE h fun own_games30 h_own_games30 h => R.bindE h fun b32 h_b32 h => R.okE h (t_or (q := b32) (t_e (e_cmp (os_val (e_bif (os_var (.sh rfl) os_nil (.sh rfl)) (sum_tup _)) rfl (os_val (e_bin (os_val e_k rfl (os_val (e_call rfl (es_cons (e_var rfl) es_nil) (F_own_games (n + 10) many6 _ h_own_games30)) rfl os_nil)) (mul_lit (by decide))) rfl os_nil)) (ne_op eqInt sum_of26.sum (2 * own_games30))) (tru_bl _) rfl) (fun hp => ⟨(R.okS (R.ifT h_b32 hp)).symm, wr⟩) (fun hn => have h := R.ifF h_b32 hn; R.bindE h fun is_halves_list31 h_is_halves_list31 h => R.okE h (t_e (e_cmp (os_val (e_call rfl (es_cons (e_var rfl) es_nil) (F_is_halves_list (n + 9) sum_of26 _ h_is_halves_list31)) rfl (os_val e_k rfl os_nil)) (isnt_bl _ _)) (tru_bl _) rfl))))) hn (ss_nil wr)) (R.bindE h fun c35 h_c35 h => R.bindE h fun back36 h_back36 h => ss_cons (s_set (E.to (e_bif (os_val (e_compm (c := T.int) (d := T.int) (l := halves25) (g := fun (each34 : Int) => (2 - each34)) (i_ex (e_var rfl) (seq_tup _)) rfl (fun each34 => trn (g_nm rfl) ts_nil (fun _ => (e_bin (os_val e_k rfl (os_var (.sh rfl) os_nil (.sh rfl))) (sub_op _ _))) rfl rfl) (R.capE h_c35)) rfl os_nil) (tup_lst _)) (congrArg (eTup T.int) (R.okS h_back36))) rfl) (R.bindE h fun halves_points37 h_halves_points37 h => R.bindE h fun c39 h_c39 h => R.bindE h fun alike40 h_alike40 h => R.iteE h (fun hp h => R.okE h (ss_rt (s_it (t_not (t_e (e_call rfl (es_cons (e_call rfl (es_cons (e_var rfl) (es_cons (e_var rfl) es_nil)) (F_halves_points (n + 8) many6 back36 _ h_halves_points37)) (es_cons (e_bif (os_val (e_compm (c := T.int) (d := T.int) (l := sum_of26) (g := fun (each38 : Int) => ((2 * (many6 - 1)) - each38)) (i_ex (e_var rfl) (seq_tup _)) rfl (fun each38 => trn (g_nm rfl) ts_nil (fun _ => (e_bin (os_val (e_bin (os_val e_k rfl (os_val (e_bin (os_var (.sh rfl) (os_val e_k rfl os_nil) (.sh rfl)) (sub_op _ _)) rfl os_nil)) (mul_lit (by decide))) rfl (os_var (.sh rfl) os_nil (.sh rfl))) (sub_op _ _))) rfl rfl) (R.capE h_c39)) rfl os_nil) (tup_lst _)) es_nil)) (F_Llaw_alike (n + 0) ((eTup T.int) halves_points37) ((eTup T.int) (sum_of26.map fun (each38 : Int) => ((2 * (many6 - 1)) - each38))) _ h_alike40)) (tru_bl _) rfl)) hp (ss_rtw (ss_rt (s_retn e_k rfl)) (by exact (wc ksu (wc ksu (wc kou (wc ksu (wc ksu (wc ksu (wc kr (wc kr (wc ksu (wc ksu (wc kr (wc kr w0))))))))))))))))) (fun hn h => ss_cons (s_if (t_not (t_e (e_call rfl (es_cons (e_call rfl (es_cons (e_var rfl) (es_cons (e_var rfl) es_nil)) (F_halves_points (n + 8) many6 back36 _ h_halves_points37)) (es_cons (e_bif (os_val (e_compm (c := T.int) (d := T.int) (l := sum_of26) (g := fun (each38 : Int) => ((2 * (many6 - 1)) - each38)) (i_ex (e_var rfl) (seq_tup _)) rfl (fun each38 => trn (g_nm rfl) ts_nil (fun _ => (e_bin (os_val (e_bin (os_val e_k rfl (os_val (e_bin (os_var (.sh rfl) (os_val e_k rfl os_nil) (.sh rfl)) (sub_op _ _)) rfl os_nil)) (mul_lit (by decide))) rfl (os_var (.sh rfl) os_nil (.sh rfl))) (sub_op _ _))) rfl rfl) (R.capE h_c39)) rfl os_nil) (tup_lst _)) es_nil)) (F_Llaw_alike (n + 0) ((eTup T.int) halves_points37) ((eTup T.int) (sum_of26.map fun (each38 : Int) => ((2 * (many6 - 1)) - each38))) _ h_alike40)) (tru_bl _) rfl)) hn (ss_nil wr)) (R.okE h (ss_nil (by exact (wc kr (wc kr (wc kr (wc kr (wc kr (wc ksu (wc kr (wc kr (wc ksu (wc ksu (wc kr (wc kr w0))))))))))))))))))))⟩)) e) (R.bindE h fun results44 h_results44 h => ss_cons (s_set (e_callow rfl rfl (es_cons (e_var rfl) es_nil) rfl (F_Llaw_results (n + 11) take22.2 many6 _ h_results44)) rfl) (R.bindE h fun c46 h_c46 h => R.bindE h fun told47 h_told47 h => ss_cons (s_set (E.to (e_bif (os_val (e_compm (c := (ePair T.int T.int)) (d := T.int) (l := pairs7) (g := fun (pair45 : Int × Int) => (2 * (if (pmem pair45 (results44.1.2 : List (Int × Int))) then 1 else 0))) (i_ex (e_var rfl) (seq_lst _)) rfl (fun pair45 => trn (g_nm rfl) ts_nil (fun _ => (e_bin (os_val e_k rfl (os_val (e_bif (os_val (e_cmp (os_var (.sh rfl) (os_val (e_idx (os_var (.sh rfl) (os_val e_k rfl os_nil) (.sh rfl)) rfl) rfl os_nil) (.sh rfl)) (in_tup (eqPair eqInt eqInt) pair45 results44.1.2)) rfl os_nil) (intb_op _)) rfl os_nil)) (mul_lit (by decide)))) rfl rfl) (R.capE h_c46)) rfl os_nil) (tup_lst _)) (congrArg (eTup T.int) (R.okS h_told47))) rfl) (R.bindE h fun halves_points48 h_halves_points48 h => R.bindE h fun points49 h_points49 h => R.bindE h fun c51 h_c51 h => R.bindE h fun alike52 h_alike52 h => R.bindE h fun b57 h_b57 h => R.iteE h (fun hp h => R.okE h (ss_rt (s_it (t_or (q := b57) (t_not (t_e (e_call rfl (es_cons (e_call rfl (es_cons (e_var rfl) (es_cons (e_var rfl) es_nil)) (F_halves_points (n + 8) many6 told47 _ h_halves_points48)) (es_cons (e_bif (os_val (e_compm (c := T.int) (d := T.int) (l := points49) (g := fun (each50 : Int) => (2 * each50)) (i_ex (e_call rfl (es_cons (e_var rfl) es_nil) (F_points (n + 7) results44.1 _ h_points49)) (seq_tup _)) rfl (fun each50 => trn (g_nm rfl) ts_nil (fun _ => (e_bin (os_val e_k rfl (os_var (.sh rfl) os_nil (.sh rfl))) (mul_lit (by decide)))) rfl rfl) (R.capE h_c51)) rfl os_nil) (tup_lst _)) es_nil)) (F_Llaw_alike (n + 0) ((eTup T.int) halves_points48) ((eTup T.int) (points49.map fun (each50 : Int) => (2 * each50))) _ h_alike52)) (tru_bl _) rfl)) (fun hp => ⟨(R.okS (R.ifT h_b57 hp)).symm, wr⟩) (fun hn => have h := R.ifF h_b57 hn; R.bindE h fun c53 h_c53 h => R.bindE h fun halves_points54 h_halves_points54 h => R.bindE h fun c55 h_c55 h => R.bindE h fun alike56 h_alike56 h => R.okE h (t_not (t_e (e_call rfl (es_cons (e_call rfl (es_cons (e_var rfl) (es_cons (e_bin (os_val (e_tup (es_cons e_k es_nil)) rfl (os_val (e_bif (os_var (.sh rfl) os_nil (.sh rfl)) (len_lst _)) rfl os_nil)) (rep_tup h_c53)) es_nil)) (F_halves_points (n + 8) many6 c53 _ h_halves_points54)) (es_cons (e_bin (os_val (e_tup (es_cons (e_bin (os_var (.sh rfl) (os_val e_k rfl os_nil) (.sh rfl)) (sub_op _ _)) es_nil)) rfl (os_var (.sh rfl) os_nil (.sh rfl))) (rep_tup h_c55)) es_nil)) (F_Llaw_alike (n + 0) ((eTup T.int) halves_points54) ((eTup T.int) c55) _ h_alike56)) (tru_bl _) rfl)))) hp (ss_rtw (ss_rt (s_retn e_k rfl)) (by exact (wc ksu (wc ksu (wc kou (wc ksu (wc ksu (wc kr (wc ksu (wc ksu (wc kr (wc kr (wc kr (wc kr w0))))))))))))))))) (fun hn h => ss_cons (s_if (t_or (q := b57) (t_not (t_e (e_call rfl (es_cons (e_call rfl (es_cons (e_var rfl) (es_cons (e_var rfl) es_nil)) (F_halves_points (n + 8) many6 told47 _ h_halves_points48)) (es_cons (e_bif (os_val (e_compm (c := T.int) (d := T.int) (l := points49) (g := fun (each50 : Int) => (2 * each50)) (i_ex (e_call rfl (es_cons (e_var rfl) es_nil) (F_points (n + 7) results44.1 _ h_points49)) (seq_tup _)) rfl (fun each50 => trn (g_nm rfl) ts_nil (fun _ => (e_bin (os_val e_k rfl (os_var (.sh rfl) os_nil (.sh rfl))) (mul_lit (by decide)))) rfl rfl) (R.capE h_c51)) rfl os_nil) (tup_lst _)) es_nil)) (F_Llaw_alike (n + 0) ((eTup T.int) halves_points48) ((eTup T.int) (points49.map fun (each50 : Int) => (2 * each50))) _ h_alike52)) (tru_bl _) rfl)) (fun hp => ⟨(R.okS (R.ifT h_b57 hp)).symm, wr⟩) (fun hn => have h := R.ifF h_b57 hn; R.bindE h fun c53 h_c53 h => R.bindE h fun halves_points54 h_halves_points54 h => R.bindE h fun c55 h_c55 h => R.bindE h fun alike56 h_alike56 h => R.okE h (t_not (t_e (e_call rfl (es_cons (e_call rfl (es_cons (e_var rfl) (es_cons (e_bin (os_val (e_tup (es_cons e_k es_nil)) rfl (os_val (e_bif (os_var (.sh rfl) os_nil (.sh rfl)) (len_lst _)) rfl os_nil)) (rep_tup h_c53)) es_nil)) (F_halves_points (n + 8) many6 c53 _ h_halves_points54)) (es_cons (e_bin (os_val (e_tup (es_cons (e_bin (os_var (.sh rfl) (os_val e_k rfl os_nil) (.sh rfl)) (sub_op _ _)) es_nil)) rfl (os_var (.sh rfl) os_nil (.sh rfl))) (rep_tup h_c55)) es_nil)) (F_Llaw_alike (n + 0) ((eTup T.int) halves_points54) ((eTup T.int) c55) _ h_alike56)) (tru_bl _) rfl)))) hn (ss_nil wr)) (R.okE h (ss_nil (by exact (wc kr (wc ksu (wc kou (wc ksu (wc ksu (wc kr (wc ksu (wc ksu (wc kr (wc kr (wc kr (wc kr w0))))))))))))))))))))))))⟩)) e rfl))) (fun m60 e h => ss_cons (S.lpNx (s_forF (Sf := fun (m2 : Unit) => ([.sh (eScr script), .un, .un, .un, .un, .un, .un, .un, .un, .un, .un, .un] : List KV)) (Rt := (fun (r : Bool) => ((T.bl r), false, [.un, .un, .un, .un, .un, .un, .un, .un, .un, .un, .un, .un]))) (c := T.int) h_o58 (i_r1 (os_val (e_bif (os_val e_k rfl (os_val (e_bif (os_val e_k rfl (os_val (e_bif (os_var (.sh rfl) os_nil (.sh rfl)) (len_scr _)) rfl os_nil)) (max2_op _ _)) rfl os_nil)) (min2_op _ _)) rfl os_nil) (rng_op h_r1)) (by exact (wc kr (wc kr (wc kr (wc kr (wc kr (wc kr (wc kr (wc kr (wc kr (wc kr (wc kr (wc kr w0))))))))))))) (fun turn3 m2 _ h => ⟨_, (g_nm rfl), R.bindE h fun pool4 h_pool4 h => ss_cons (s_seto (e_call rfl (es_cons (e_var rfl) (es_cons (e_var rfl) es_nil)) (F_Llaw_pool (n + 13) script turn3 _ h_pool4)) rfl rfl) (R.bindE h fun take5 h_take5 h => R.bindE h fun many6 h_many6 h => ss_cons (s_set (E.to (e_bin (os_val e_k rfl (os_val (e_callow rfl rfl (es_cons e_k es_nil) rfl (F_Llaw_take (n + 13) pool4 8 _ h_take5)) rfl os_nil)) (add_op _ _)) (congrArg T.int (R.okS h_many6))) rfl) (R.bindE h fun pairs7 h_pairs7 h => ss_cons (s_seto (e_call rfl (es_cons (e_var rfl) es_nil) (F_Llaw_pairs (n + 13) many6 _ h_pairs7)) rfl rfl) (R.bindE h fun l13 h_l13 h => R.bindE h fun c14 h_c14 h => R.bindE h fun l20 h_l20 h => R.bindE h fun c21 h_c21 h => R.bindE h fun take22 h_take22 h => R.bindE h fun c23 h_c23 h => R.bindE h fun o41 h_o41 h => R.lpE h (fun r42 e h => R.okE h (ss_wk (by exact (wc kr (wc kr (wc kr (wc kr (wc kos (wc kr (wc kr (wc kr (wc kr (wc kr (wc kr (wc kr w0))))))))))))) (ss_rt (S.lpRt (s_forF (Sf := fun (m24 : Unit) => ([.sh (eScr script), .sh (T.int turn3), .ow ((eLst T.int) take22.2), .sh (T.int many6), .sh ((eLst (ePair T.int T.int)) pairs7), .un, .un, .un, .un, .un, .un, .un] : List KV)) (Rt := (fun (r : Bool) => ((T.bl r), false, [.un, .un, .un, .un, .un, .un, .un, .un, .un, .un, .un, .un]))) (c := (eTup T.int)) h_o41 (i_ex (E.to (u := ((eTup (eTup T.int)) [l13.2, l20.2, c23])) (e_tup (es_cons (e_bif (os_val (e_compS (c := (ePair T.int T.int)) (d := T.int) (S := fun (m10 : (List Int)) => ([.sh (eScr script), .sh (T.int turn3), .ow ((eLst T.int) m10), .sh (T.int many6), .sh ((eLst (ePair T.int T.int)) pairs7), .un, .un, .un, .un, .un, .un, .un] : List KV)) (st2 := [.sh (eScr script), .sh (T.int turn3), .ow ((eLst T.int) l13.1), .sh (T.int many6), .sh ((eLst (ePair T.int T.int)) pairs7), .un, .un, .un, .un, .un, .un, .un]) h_l13 (Go.toSt (i_ex (e_var rfl) (seq_lst _)) rfl) rfl (fun pair11 m10 _ _ h => R.bindE h fun take12 h_take12 h => R.okE2 h ⟨true, _, trnT (g_nm rfl) ts_nil rfl (e_callow rfl rfl (es_cons e_k es_nil) rfl (F_Llaw_take (n + 13) m10 3 _ h_take12)) rfl, rfl⟩) (R.capE h_c14) rfl) rfl os_nil) (tup_lst _)) (es_cons (e_bif (os_val (e_compS (c := (ePair T.int T.int)) (d := T.int) (S := fun (m17 : (List Int)) => ([.sh (eScr script), .sh (T.int turn3), .ow ((eLst T.int) m17), .sh (T.int many6), .sh ((eLst (ePair T.int T.int)) pairs7), .un, .un, .un, .un, .un, .un, .un] : List KV)) (st2 := [.sh (eScr script), .sh (T.int turn3), .ow ((eLst T.int) l20.1), .sh (T.int many6), .sh ((eLst (ePair T.int T.int)) pairs7), .un, .un, .un, .un, .un, .un, .un]) h_l20 (Go.toSt (i_ex (e_var rfl) (seq_lst _)) rfl) rfl (fun pair18 m17 _ _ h => R.bindE h fun take19 h_take19 h => R.okE2 h ⟨true, _, trnT (g_nm rfl) ts_nil rfl (e_bin (os_val e_k rfl (os_val (e_callow rfl rfl (es_cons e_k es_nil) rfl (F_Llaw_take (n + 13) m17 2 _ h_take19)) rfl os_nil)) (mul_lit (by decide))) rfl, rfl⟩) (R.capE h_c21) rfl) rfl os_nil) (tup_lst _)) (es_cons (e_bin (os_val (e_tup (es_cons (e_callow rfl rfl (es_cons e_k es_nil) rfl (F_Llaw_take (n + 13) l20.1 3 _ h_take22)) es_nil)) rfl (os_val (e_bif (os_var (.sh rfl) os_nil (.sh rfl)) (len_lst _)) rfl os_nil)) (rep_tup h_c23)) es_nil)))) rfl) (seq_tup _)) (by exact (wc kr (wc kr (wc kr (wc kr (wc kr (wc kr (wc kr (wc kr (wc kr (wc kr (wc kr (wc kr w0))))))))))))) (fun halves25 m24 _ h => ⟨_, (g_nm rfl), R.bindE h fun sum_of26 h_sum_of26 h => ss_cons (s_set (e_call rfl (es_cons (e_var rfl) (es_cons (e_var rfl) es_nil)) (F_Llaw_sum_of (n + 12) many6 halves25 _ h_sum_of26)) rfl) (R.bindE h fun halves_points27 h_halves_points27 h => R.bindE h fun halves_points28 h_halves_points28 h => R.bindE h fun alike29 h_alike29 h => R.bindE h fun b33 h_b33 h => R.iteE h (fun hp h => R.okE h (ss_rt (s_it (t_or (q := b33) (t_not (t_e (e_call rfl (es_cons (e_tup (es_cons (e_call rfl (es_cons (e_var rfl) (es_cons (e_var rfl) es_nil)) (F_halves_points (n + 8) many6 halves25 _ h_halves_points27)) (es_cons (e_callk rfl es_nil (es_cons (e_var rfl) (es_cons (e_var rfl) es_nil)) rfl (F_halves_points (n + 8) many6 halves25 _ h_halves_points28)) es_nil))) (es_cons (e_tup (es_cons (e_var rfl) (es_cons (e_var rfl) es_nil))) es_nil)) (F_Llaw_alike (n + 0) ((ePair (eTup T.int) (eTup T.int)) (halves_points27, halves_points28)) ((ePair (eTup T.int) (eTup T.int)) (sum_of26, sum_of26)) _ h_alike29)) (tru_bl _) rfl)) (fun hp => ⟨(R.okS (R.ifT h_b33 hp)).symm, wr⟩) (fun hn => have h := R.ifF h_b33 hn; R.bindE h fun own_games30 h_own_games30 h => R.bindE h fun b32 h_b32 h => R.okE h (t_or (q := b32) (t_e (e_cmp (os_val (e_bif (os_var (.sh rfl) os_nil (.sh rfl)) (sum_tup _)) rfl (os_val (e_bin (os_val e_k rfl (os_val (e_call rfl (es_cons (e_var rfl) es_nil) (F_own_games (n + 10) many6 _ h_own_games30)) rfl os_nil)) (mul_lit (by decide))) rfl os_nil)) (ne_op eqInt sum_of26.sum (2 * own_games30))) (tru_bl _) rfl) (fun hp => ⟨(R.okS (R.ifT h_b32 hp)).symm, wr⟩) (fun hn => have h := R.ifF h_b32 hn; R.bindE h fun is_halves_list31 h_is_halves_list31 h => R.okE h (t_e (e_cmp (os_val (e_call rfl (es_cons (e_var rfl) es_nil) (F_is_halves_list (n + 9) sum_of26 _ h_is_halves_list31)) rfl (os_val e_k rfl os_nil)) (isnt_bl _ _)) (tru_bl _) rfl))))) hp (ss_rtw (ss_rt (s_retn e_k rfl)) (by exact (wc ksu (wc ksu (wc kou (wc ksu (wc ksu (wc ksu (wc kr (wc kr (wc ksu (wc kr (wc kr (wc kr w0))))))))))))))))) (fun hn h => ss_cons (s_if (t_or (q := b33) (t_not (t_e (e_call rfl (es_cons (e_tup (es_cons (e_call rfl (es_cons (e_var rfl) (es_cons (e_var rfl) es_nil)) (F_halves_points (n + 8) many6 halves25 _ h_halves_points27)) (es_cons (e_callk rfl es_nil (es_cons (e_var rfl) (es_cons (e_var rfl) es_nil)) rfl (F_halves_points (n + 8) many6 halves25 _ h_halves_points28)) es_nil))) (es_cons (e_tup (es_cons (e_var rfl) (es_cons (e_var rfl) es_nil))) es_nil)) (F_Llaw_alike (n + 0) ((ePair (eTup T.int) (eTup T.int)) (halves_points27, halves_points28)) ((ePair (eTup T.int) (eTup T.int)) (sum_of26, sum_of26)) _ h_alike29)) (tru_bl _) rfl)) (fun hp => ⟨(R.okS (R.ifT h_b33 hp)).symm, wr⟩) (fun hn => have h := R.ifF h_b33 hn; R.bindE h fun own_games30 h_own_games30 h => R.bindE h fun b32 h_b32 h => R.okE h (t_or (q := b32) (t_e (e_cmp (os_val (e_bif (os_var (.sh rfl) os_nil (.sh rfl)) (sum_tup _)) rfl (os_val (e_bin (os_val e_k rfl (os_val (e_call rfl (es_cons (e_var rfl) es_nil) (F_own_games (n + 10) many6 _ h_own_games30)) rfl os_nil)) (mul_lit (by decide))) rfl os_nil)) (ne_op eqInt sum_of26.sum (2 * own_games30))) (tru_bl _) rfl) (fun hp => ⟨(R.okS (R.ifT h_b32 hp)).symm, wr⟩) (fun hn => have h := R.ifF h_b32 hn; R.bindE h fun is_halves_list31 h_is_halves_list31 h => R.okE h (t_e (e_cmp (os_val (e_call rfl (es_cons (e_var rfl) es_nil) (F_is_halves_list (n + 9) sum_of26 _ h_is_halves_list31)) rfl (os_val e_k rfl os_nil)) (isnt_bl _ _)) (tru_bl _) rfl))))) hn (ss_nil wr)) (R.bindE h fun c35 h_c35 h => R.bindE h fun back36 h_back36 h => ss_cons (s_set (E.to (e_bif (os_val (e_compm (c := T.int) (d := T.int) (l := halves25) (g := fun (each34 : Int) => (2 - each34)) (i_ex (e_var rfl) (seq_tup _)) rfl (fun each34 => trn (g_nm rfl) ts_nil (fun _ => (e_bin (os_val e_k rfl (os_var (.sh rfl) os_nil (.sh rfl))) (sub_op _ _))) rfl rfl) (R.capE h_c35)) rfl os_nil) (tup_lst _)) (congrArg (eTup T.int) (R.okS h_back36))) rfl) (R.bindE h fun halves_points37 h_halves_points37 h => R.bindE h fun c39 h_c39 h => R.bindE h fun alike40 h_alike40 h => R.iteE h (fun hp h => R.okE h (ss_rt (s_it (t_not (t_e (e_call rfl (es_cons (e_call rfl (es_cons (e_var rfl) (es_cons (e_var rfl) es_nil)) (F_halves_points (n + 8) many6 back36 _ h_halves_points37)) (es_cons (e_bif (os_val (e_compm (c := T.int) (d := T.int) (l := sum_of26) (g := fun (each38 : Int) => ((2 * (many6 - 1)) - each38)) (i_ex (e_var rfl) (seq_tup _)) rfl (fun each38 => trn (g_nm rfl) ts_nil (fun _ => (e_bin (os_val (e_bin (os_val e_k rfl (os_val (e_bin (os_var (.sh rfl) (os_val e_k rfl os_nil) (.sh rfl)) (sub_op _ _)) rfl os_nil)) (mul_lit (by decide))) rfl (os_var (.sh rfl) os_nil (.sh rfl))) (sub_op _ _))) rfl rfl) (R.capE h_c39)) rfl os_nil) (tup_lst _)) es_nil)) (F_Llaw_alike (n + 0) ((eTup T.int) halves_points37) ((eTup T.int) (sum_of26.map fun (each38 : Int) => ((2 * (many6 - 1)) - each38))) _ h_alike40)) (tru_bl _) rfl)) hp (ss_rtw (ss_rt (s_retn e_k rfl)) (by exact (wc ksu (wc ksu (wc kou (wc ksu (wc ksu (wc ksu (wc kr (wc kr (wc ksu (wc ksu (wc kr (wc kr w0))))))))))))))))) (fun hn h => ss_cons (s_if (t_not (t_e (e_call rfl (es_cons (e_call rfl (es_cons (e_var rfl) (es_cons (e_var rfl) es_nil)) (F_halves_points (n + 8) many6 back36 _ h_halves_points37)) (es_cons (e_bif (os_val (e_compm (c := T.int) (d := T.int) (l := sum_of26) (g := fun (each38 : Int) => ((2 * (many6 - 1)) - each38)) (i_ex (e_var rfl) (seq_tup _)) rfl (fun each38 => trn (g_nm rfl) ts_nil (fun _ => (e_bin (os_val (e_bin (os_val e_k rfl (os_val (e_bin (os_var (.sh rfl) (os_val e_k rfl os_nil) (.sh rfl)) (sub_op _ _)) rfl os_nil)) (mul_lit (by decide))) rfl (os_var (.sh rfl) os_nil (.sh rfl))) (sub_op _ _))) rfl rfl) (R.capE h_c39)) rfl os_nil) (tup_lst _)) es_nil)) (F_Llaw_alike (n + 0) ((eTup T.int) halves_points37) ((eTup T.int) (sum_of26.map fun (each38 : Int) => ((2 * (many6 - 1)) - each38))) _ h_alike40)) (tru_bl _) rfl)) hn (ss_nil wr)) (R.okE h (ss_nil (by exact (wc kr (wc kr (wc kr (wc kr (wc kr (wc ksu (wc kr (wc kr (wc ksu (wc ksu (wc kr (wc kr w0))))))))))))))))))))⟩)) e rfl)))) (fun m43 e h => ss_wk (by exact (wc kr (wc kr (wc kr (wc kr (wc kos (wc kr (wc kr (wc kr (wc kr (wc kr (wc kr (wc kr w0))))))))))))) (ss_cons (S.lpNx (s_forF (Sf := fun (m24 : Unit) => ([.sh (eScr script), .sh (T.int turn3), .ow ((eLst T.int) take22.2), .sh (T.int many6), .sh ((eLst (ePair T.int T.int)) pairs7), .un, .un, .un, .un, .un, .un, .un] : List KV)) (Rt := (fun (r : Bool) => ((T.bl r), false, [.un, .un, .un, .un, .un, .un, .un, .un, .un, .un, .un, .un]))) (c := (eTup T.int)) h_o41 (i_ex (E.to (u := ((eTup (eTup T.int)) [l13.2, l20.2, c23])) (e_tup (es_cons (e_bif (os_val (e_compS (c := (ePair T.int T.int)) (d := T.int) (S := fun (m10 : (List Int)) => ([.sh (eScr script), .sh (T.int turn3), .ow ((eLst T.int) m10), .sh (T.int many6), .sh ((eLst (ePair T.int T.int)) pairs7), .un, .un, .un, .un, .un, .un, .un] : List KV)) (st2 := [.sh (eScr script), .sh (T.int turn3), .ow ((eLst T.int) l13.1), .sh (T.int many6), .sh ((eLst (ePair T.int T.int)) pairs7), .un, .un, .un, .un, .un, .un, .un]) h_l13 (Go.toSt (i_ex (e_var rfl) (seq_lst _)) rfl) rfl (fun pair11 m10 _ _ h => R.bindE h fun take12 h_take12 h => R.okE2 h ⟨true, _, trnT (g_nm rfl) ts_nil rfl (e_callow rfl rfl (es_cons e_k es_nil) rfl (F_Llaw_take (n + 13) m10 3 _ h_take12)) rfl, rfl⟩) (R.capE h_c14) rfl) rfl os_nil) (tup_lst _)) (es_cons (e_bif (os_val (e_compS (c := (ePair T.int T.int)) (d := T.int) (S := fun (m17 : (List Int)) => ([.sh (eScr script), .sh (T.int turn3), .ow ((eLst T.int) m17), .sh (T.int many6), .sh ((eLst (ePair T.int T.int)) pairs7), .un, .un, .un, .un, .un, .un, .un] : List KV)) (st2 := [.sh (eScr script), .sh (T.int turn3), .ow ((eLst T.int) l20.1), .sh (T.int many6), .sh ((eLst (ePair T.int T.int)) pairs7), .un, .un, .un, .un, .un, .un, .un]) h_l20 (Go.toSt (i_ex (e_var rfl) (seq_lst _)) rfl) rfl (fun pair18 m17 _ _ h => R.bindE h fun take19 h_take19 h => R.okE2 h ⟨true, _, trnT (g_nm rfl) ts_nil rfl (e_bin (os_val e_k rfl (os_val (e_callow rfl rfl (es_cons e_k es_nil) rfl (F_Llaw_take (n + 13) m17 2 _ h_take19)) rfl os_nil)) (mul_lit (by decide))) rfl, rfl⟩) (R.capE h_c21) rfl) rfl os_nil) (tup_lst _)) (es_cons (e_bin (os_val (e_tup (es_cons (e_callow rfl rfl (es_cons e_k es_nil) rfl (F_Llaw_take (n + 13) l20.1 3 _ h_take22)) es_nil)) rfl (os_val (e_bif (os_var (.sh rfl) os_nil (.sh rfl)) (len_lst _)) rfl os_nil)) (rep_tup h_c23)) es_nil)))) rfl) (seq_tup _)) (by exact (wc kr (wc kr (wc kr (wc kr (wc kr (wc kr (wc kr (wc kr (wc kr (wc kr (wc kr (wc kr w0))))))))))))) (fun halves25 m24 _ h => ⟨_, (g_nm rfl), R.bindE h fun sum_of26 h_sum_of26 h => ss_cons (s_set (e_call rfl (es_cons (e_var rfl) (es_cons (e_var rfl) es_nil)) (F_Llaw_sum_of (n + 12) many6 halves25 _ h_sum_of26)) rfl) (R.bindE h fun halves_points27 h_halves_points27 h => R.bindE h fun halves_points28 h_halves_points28 h => R.bindE h fun alike29 h_alike29 h => R.bindE h fun b33 h_b33 h => R.iteE h (fun hp h => R.okE h (ss_rt (s_it (t_or (q := b33) (t_not (t_e (e_call rfl (es_cons (e_tup (es_cons (e_call rfl (es_cons (e_var rfl) (es_cons (e_var rfl) es_nil)) (F_halves_points (n + 8) many6 halves25 _ h_halves_points27)) (es_cons (e_callk rfl es_nil (es_cons (e_var rfl) (es_cons (e_var rfl) es_nil)) rfl (F_halves_points (n + 8) many6 halves25 _ h_halves_points28)) es_nil))) (es_cons (e_tup (es_cons (e_var rfl) (es_cons (e_var rfl) es_nil))) es_nil)) (F_Llaw_alike (n + 0) ((ePair (eTup T.int) (eTup T.int)) (halves_points27, halves_points28)) ((ePair (eTup T.int) (eTup T.int)) (sum_of26, sum_of26)) _ h_alike29)) (tru_bl _) rfl)) (fun hp => ⟨(R.okS (R.ifT h_b33 hp)).symm, wr⟩) (fun hn => have h := R.ifF h_b33 hn; R.bindE h fun own_games30 h_own_games30 h => R.bindE h fun b32 h_b32 h => R.okE h (t_or (q := b32) (t_e (e_cmp (os_val (e_bif (os_var (.sh rfl) os_nil (.sh rfl)) (sum_tup _)) rfl (os_val (e_bin (os_val e_k rfl (os_val (e_call rfl (es_cons (e_var rfl) es_nil) (F_own_games (n + 10) many6 _ h_own_games30)) rfl os_nil)) (mul_lit (by decide))) rfl os_nil)) (ne_op eqInt sum_of26.sum (2 * own_games30))) (tru_bl _) rfl) (fun hp => ⟨(R.okS (R.ifT h_b32 hp)).symm, wr⟩) (fun hn => have h := R.ifF h_b32 hn; R.bindE h fun is_halves_list31 h_is_halves_list31 h => R.okE h (t_e (e_cmp (os_val (e_call rfl (es_cons (e_var rfl) es_nil) (F_is_halves_list (n + 9) sum_of26 _ h_is_halves_list31)) rfl (os_val e_k rfl os_nil)) (isnt_bl _ _)) (tru_bl _) rfl))))) hp (ss_rtw (ss_rt (s_retn e_k rfl)) (by exact (wc ksu (wc ksu (wc kou (wc ksu (wc ksu (wc ksu (wc kr (wc kr (wc ksu (wc kr (wc kr (wc kr w0))))))))))))))))) (fun hn h => ss_cons (s_if (t_or (q := b33) (t_not (t_e (e_call rfl (es_cons (e_tup (es_cons (e_call rfl (es_cons (e_var rfl) (es_cons (e_var rfl) es_nil)) (F_halves_points (n + 8) many6 halves25 _ h_halves_points27)) (es_cons (e_callk rfl es_nil (es_cons (e_var rfl) (es_cons (e_var rfl) es_nil)) rfl (F_halves_points (n + 8) many6 halves25 _ h_halves_points28)) es_nil))) (es_cons (e_tup (es_cons (e_var rfl) (es_cons (e_var rfl) es_nil))) es_nil)) (F_Llaw_alike (n + 0) ((ePair (eTup T.int) (eTup T.int)) (halves_points27, halves_points28)) ((ePair (eTup T.int) (eTup T.int)) (sum_of26, sum_of26)) _ h_alike29)) (tru_bl _) rfl)) (fun hp => ⟨(R.okS (R.ifT h_b33 hp)).symm, wr⟩) (fun hn => have h := R.ifF h_b33 hn; R.bindE h fun own_games30 h_own_games30 h => R.bindE h fun b32 h_b32 h => R.okE h (t_or (q := b32) (t_e (e_cmp (os_val (e_bif (os_var (.sh rfl) os_nil (.sh rfl)) (sum_tup _)) rfl (os_val (e_bin (os_val e_k rfl (os_val (e_call rfl (es_cons (e_var rfl) es_nil) (F_own_games (n + 10) many6 _ h_own_games30)) rfl os_nil)) (mul_lit (by decide))) rfl os_nil)) (ne_op eqInt sum_of26.sum (2 * own_games30))) (tru_bl _) rfl) (fun hp => ⟨(R.okS (R.ifT h_b32 hp)).symm, wr⟩) (fun hn => have h := R.ifF h_b32 hn; R.bindE h fun is_halves_list31 h_is_halves_list31 h => R.okE h (t_e (e_cmp (os_val (e_call rfl (es_cons (e_var rfl) es_nil) (F_is_halves_list (n + 9) sum_of26 _ h_is_halves_list31)) rfl (os_val e_k rfl os_nil)) (isnt_bl _ _)) (tru_bl _) rfl))))) hn (ss_nil wr)) (R.bindE h fun c35 h_c35 h => R.bindE h fun back36 h_back36 h => ss_cons (s_set (E.to (e_bif (os_val (e_compm (c := T.int) (d := T.int) (l := halves25) (g := fun (each34 : Int) => (2 - each34)) (i_ex (e_var rfl) (seq_tup _)) rfl (fun each34 => trn (g_nm rfl) ts_nil (fun _ => (e_bin (os_val e_k rfl (os_var (.sh rfl) os_nil (.sh rfl))) (sub_op _ _))) rfl rfl) (R.capE h_c35)) rfl os_nil) (tup_lst _)) (congrArg (eTup T.int) (R.okS h_back36))) rfl) (R.bindE h fun halves_points37 h_halves_points37 h => R.bindE h fun c39 h_c39 h => R.bindE h fun alike40 h_alike40 h => R.iteE h (fun hp h => R.okE h (ss_rt (s_it (t_not (t_e (e_call rfl (es_cons (e_call rfl (es_cons (e_var rfl) (es_cons (e_var rfl) es_nil)) (F_halves_points (n + 8) many6 back36 _ h_halves_points37)) (es_cons (e_bif (os_val (e_compm (c := T.int) (d := T.int) (l := sum_of26) (g := fun (each38 : Int) => ((2 * (many6 - 1)) - each38)) (i_ex (e_var rfl) (seq_tup _)) rfl (fun each38 => trn (g_nm rfl) ts_nil (fun _ => (e_bin (os_val (e_bin (os_val e_k rfl (os_val (e_bin (os_var (.sh rfl) (os_val e_k rfl os_nil) (.sh rfl)) (sub_op _ _)) rfl os_nil)) (mul_lit (by decide))) rfl (os_var (.sh rfl) os_nil (.sh rfl))) (sub_op _ _))) rfl rfl) (R.capE h_c39)) rfl os_nil) (tup_lst _)) es_nil)) (F_Llaw_alike (n + 0) ((eTup T.int) halves_points37) ((eTup T.int) (sum_of26.map fun (each38 : Int) => ((2 * (many6 - 1)) - each38))) _ h_alike40)) (tru_bl _) rfl)) hp (ss_rtw (ss_rt (s_retn e_k rfl)) (by exact (wc ksu (wc ksu (wc kou (wc ksu (wc ksu (wc ksu (wc kr (wc kr (wc ksu (wc ksu (wc kr (wc kr w0))))))))))))))))) (fun hn h => ss_cons (s_if (t_not (t_e (e_call rfl (es_cons (e_call rfl (es_cons (e_var rfl) (es_cons (e_var rfl) es_nil)) (F_halves_points (n + 8) many6 back36 _ h_halves_points37)) (es_cons (e_bif (os_val (e_compm (c := T.int) (d := T.int) (l := sum_of26) (g := fun (each38 : Int) => ((2 * (many6 - 1)) - each38)) (i_ex (e_var rfl) (seq_tup _)) rfl (fun each38 => trn (g_nm rfl) ts_nil (fun _ => (e_bin (os_val (e_bin (os_val e_k rfl (os_val (e_bin (os_var (.sh rfl) (os_val e_k rfl os_nil) (.sh rfl)) (sub_op _ _)) rfl os_nil)) (mul_lit (by decide))) rfl (os_var (.sh rfl) os_nil (.sh rfl))) (sub_op _ _))) rfl rfl) (R.capE h_c39)) rfl os_nil) (tup_lst _)) es_nil)) (F_Llaw_alike (n + 0) ((eTup T.int) halves_points37) ((eTup T.int) (sum_of26.map fun (each38 : Int) => ((2 * (many6 - 1)) - each38))) _ h_alike40)) (tru_bl _) rfl)) hn (ss_nil wr)) (R.okE h (ss_nil (by exact (wc kr (wc kr (wc kr (wc kr (wc kr (wc ksu (wc kr (wc kr (wc ksu (wc ksu (wc kr (wc kr w0))))))))))))))))))))⟩)) e) (R.bindE h fun results44 h_results44 h => ss_cons (s_set (e_callow rfl rfl (es_cons (e_var rfl) es_nil) rfl (F_Llaw_results (n + 11) take22.2 many6 _ h_results44)) rfl) (R.bindE h fun c46 h_c46 h => R.bindE h fun told47 h_told47 h => ss_cons (s_set (E.to (e_bif (os_val (e_compm (c := (ePair T.int T.int)) (d := T.int) (l := pairs7) (g := fun (pair45 : Int × Int) => (2 * (if (pmem pair45 (results44.1.2 : List (Int × Int))) then 1 else 0))) (i_ex (e_var rfl) (seq_lst _)) rfl (fun pair45 => trn (g_nm rfl) ts_nil (fun _ => (e_bin (os_val e_k rfl (os_val (e_bif (os_val (e_cmp (os_var (.sh rfl) (os_val (e_idx (os_var (.sh rfl) (os_val e_k rfl os_nil) (.sh rfl)) rfl) rfl os_nil) (.sh rfl)) (in_tup (eqPair eqInt eqInt) pair45 results44.1.2)) rfl os_nil) (intb_op _)) rfl os_nil)) (mul_lit (by decide)))) rfl rfl) (R.capE h_c46)) rfl os_nil) (tup_lst _)) (congrArg (eTup T.int) (R.okS h_told47))) rfl) (R.bindE h fun halves_points48 h_halves_points48 h => R.bindE h fun points49 h_points49 h => R.bindE h fun c51 h_c51 h => R.bindE h fun alike52 h_alike52 h => R.bindE h fun b57 h_b57 h => R.iteE h (fun hp h => R.okE h (ss_rt (s_it (t_or (q := b57) (t_not (t_e (e_call rfl (es_cons (e_call rfl (es_cons (e_var rfl) (es_cons (e_var rfl) es_nil)) (F_halves_points (n + 8) many6 told47 _ h_halves_points48)) (es_cons (e_bif (os_val (e_compm (c := T.int) (d := T.int) (l := points49) (g := fun (each50 : Int) => (2 * each50)) (i_ex (e_call rfl (es_cons (e_var rfl) es_nil) (F_points (n + 7) results44.1 _ h_points49)) (seq_tup _)) rfl (fun each50 => trn (g_nm rfl) ts_nil (fun _ => (e_bin (os_val e_k rfl (os_var (.sh rfl) os_nil (.sh rfl))) (mul_lit (by decide)))) rfl rfl) (R.capE h_c51)) rfl os_nil) (tup_lst _)) es_nil)) (F_Llaw_alike (n + 0) ((eTup T.int) halves_points48) ((eTup T.int) (points49.map fun (each50 : Int) => (2 * each50))) _ h_alike52)) (tru_bl _) rfl)) (fun hp => ⟨(R.okS (R.ifT h_b57 hp)).symm, wr⟩) (fun hn => have h := R.ifF h_b57 hn; R.bindE h fun c53 h_c53 h => R.bindE h fun halves_points54 h_halves_points54 h => R.bindE h fun c55 h_c55 h => R.bindE h fun alike56 h_alike56 h => R.okE h (t_not (t_e (e_call rfl (es_cons (e_call rfl (es_cons (e_var rfl) (es_cons (e_bin (os_val (e_tup (es_cons e_k es_nil)) rfl (os_val (e_bif (os_var (.sh rfl) os_nil (.sh rfl)) (len_lst _)) rfl os_nil)) (rep_tup h_c53)) es_nil)) (F_halves_points (n + 8) many6 c53 _ h_halves_points54)) (es_cons (e_bin (os_val (e_tup (es_cons (e_bin (os_var (.sh rfl) (os_val e_k rfl os_nil) (.sh rfl)) (sub_op _ _)) es_nil)) rfl (os_var (.sh rfl) os_nil (.sh rfl))) (rep_tup h_c55)) es_nil)) (F_Llaw_alike (n + 0) ((eTup T.int) halves_points54) ((eTup T.int) c55) _ h_alike56)) (tru_bl _) rfl)))) hp (ss_rtw (ss_rt (s_retn e_k rfl)) (by exact (wc ksu (wc ksu (wc kou (wc ksu (wc ksu (wc kr (wc ksu (wc ksu (wc kr (wc kr (wc kr (wc kr w0))))))))))))))))) (fun hn h => ss_cons (s_if (t_or (q := b57) (t_not (t_e (e_call rfl (es_cons (e_call rfl (es_cons (e_var rfl) (es_cons (e_var rfl) es_nil)) (F_halves_points (n + 8) many6 told47 _ h_halves_points48)) (es_cons (e_bif (os_val (e_compm (c := T.int) (d := T.int) (l := points49) (g := fun (each50 : Int) => (2 * each50)) (i_ex (e_call rfl (es_cons (e_var rfl) es_nil) (F_points (n + 7) results44.1 _ h_points49)) (seq_tup _)) rfl (fun each50 => trn (g_nm rfl) ts_nil (fun _ => (e_bin (os_val e_k rfl (os_var (.sh rfl) os_nil (.sh rfl))) (mul_lit (by decide)))) rfl rfl) (R.capE h_c51)) rfl os_nil) (tup_lst _)) es_nil)) (F_Llaw_alike (n + 0) ((eTup T.int) halves_points48) ((eTup T.int) (points49.map fun (each50 : Int) => (2 * each50))) _ h_alike52)) (tru_bl _) rfl)) (fun hp => ⟨(R.okS (R.ifT h_b57 hp)).symm, wr⟩) (fun hn => have h := R.ifF h_b57 hn; R.bindE h fun c53 h_c53 h => R.bindE h fun halves_points54 h_halves_points54 h => R.bindE h fun c55 h_c55 h => R.bindE h fun alike56 h_alike56 h => R.okE h (t_not (t_e (e_call rfl (es_cons (e_call rfl (es_cons (e_var rfl) (es_cons (e_bin (os_val (e_tup (es_cons e_k es_nil)) rfl (os_val (e_bif (os_var (.sh rfl) os_nil (.sh rfl)) (len_lst _)) rfl os_nil)) (rep_tup h_c53)) es_nil)) (F_halves_points (n + 8) many6 c53 _ h_halves_points54)) (es_cons (e_bin (os_val (e_tup (es_cons (e_bin (os_var (.sh rfl) (os_val e_k rfl os_nil) (.sh rfl)) (sub_op _ _)) es_nil)) rfl (os_var (.sh rfl) os_nil (.sh rfl))) (rep_tup h_c55)) es_nil)) (F_Llaw_alike (n + 0) ((eTup T.int) halves_points54) ((eTup T.int) c55) _ h_alike56)) (tru_bl _) rfl)))) hn (ss_nil wr)) (R.okE h (ss_nil (by exact (wc kr (wc ksu (wc kou (wc ksu (wc ksu (wc kr (wc ksu (wc ksu (wc kr (wc kr (wc kr (wc kr w0))))))))))))))))))))))))⟩)) e) (R.bindE h fun halves_points61 h_halves_points61 h => R.bindE h fun alike62 h_alike62 h => R.okE h (ss_rtw (ss_rt (s_retn (e_call rfl (es_cons (e_call rfl (es_cons e_k (es_cons (e_tup es_nil) es_nil)) (F_halves_points (n + 8) 1 [] _ h_halves_points61)) (es_cons (e_tup (es_cons e_k es_nil)) es_nil)) (F_Llaw_alike (n + 0) ((eTup T.int) halves_points61) ((eP1 T.int) 0) _ h_alike62)) rfl)) (by exact (wc ksu (wc kr (wc kr (wc kr (wc kr (wc kr (wc kr (wc kr (wc kr (wc kr (wc kr (wc kr w0))))))))))))))))))) rfl
end G51

set_option Elab.async false
set_option linter.all false
set_option maxRecDepth 100000
set_option maxHeartbeats 4000000
set_option exponentiation.threshold 500000
set_option autoImplicit false
namespace G51
open Ev
open Ev.R (Lp)
open PySem (Str PyData)
/-! draws (laws k40 to k59) -/
def Pool (l : List Int) : Prop := ∃ a b : Int, l = [a, b]
theorem pool_ok {script : List Int} {k : Int} (h : 0 ≤ k) : R.Ok (p_Llaw_pool script k) Pool := by
  unfold p_Llaw_pool
  refine R.Ok.bindV rfl ?_
  refine R.Ok.bind (P := fun _ => True) (R.Ok.ite (fun h1 => ?_) fun _ => R.Ok.pure trivial) fun v _ => ?_
  · exact R.Ok.bind (R.Ok.idx h (of_decide_eq_true h1)) fun x _ => R.Ok.pure trivial
  refine R.Ok.bindV rfl ?_
  refine R.Ok.bindV rfl ?_
  exact R.Ok.ite (fun _ => R.Ok.pure ⟨_, _, rfl⟩) fun _ => R.Ok.pure ⟨_, _, rfl⟩
theorem fdiv_ok' {i j : Int} (h : 0 < j) (h1 : j ≤ 2 ^ 24) : R.fdiv i j = .ok (i / j) := by
  unfold R.fdiv
  rw [if_pos (decide_eq_true ⟨h, Int.lt_of_le_of_lt h1 (Int.lt_of_lt_of_le (show (2 : Int) ^ 24 < 2 ^ 62 by decide) big_pow)⟩)]
theorem take_ok {l : List Int} {m : Int} (hp : Pool l) (h0 : 0 < m) (h1 : m ≤ 2 ^ 24) : R.Ok (p_Llaw_take l m) fun x => (0 ≤ x.1 ∧ x.1 < m) ∧ Pool x.2 := by
  obtain ⟨a, b, rfl⟩ := hp
  unfold p_Llaw_take
  refine R.Ok.bindV (a := a) rfl ?_
  refine R.Ok.ite (fun h => ?_) fun h => ?_
  · refine R.Ok.bindV (a := a) rfl ?_
    refine R.Ok.bindV (R.mod_ok' h0) ?_
    refine R.Ok.bindV (a := a) rfl ?_
    refine R.Ok.bindV (fdiv_ok' h0 h1) ?_
    refine R.Ok.bindV (a := [a / m, b]) rfl ?_
    exact R.Ok.pure ⟨⟨Int.emod_nonneg _ (by omega), Int.emod_lt_of_pos _ h0⟩, _, _, rfl⟩
  · refine R.Ok.then (I := fun (s : List Int × Int × Int) => Pool s.1) ?_ fun s hs => ?_
    · have body : ∀ (p : List Int) (t r : Int), Pool p → ∃ p' t', Pool p' ∧ ((R.idx (p : List Int) 1).bind fun x8 =>
          (R.setI p 1 (((x8 * 6364136223846793005) + 1442695040888963407) % 18446744073709551616)).bind fun pool9 =>
          (R.idx (pool9 : List Int) 1).bind fun x10 =>
          ((R.ok (((t * 16777216) + (x10 / 1099511627776))) : R Int)).bind fun told11 =>
          ((R.ok ((r * 16777216)) : R Int)).bind fun reach12 => (R.ok (Lp.nx (pool9, told11, reach12)) : R (Lp Empty (List Int × Int × Int)))) = .ok (.nx (p', t', r * 16777216)) := by
        rintro p t r ⟨a, b, rfl⟩
        exact ⟨_, _, ⟨_, _, rfl⟩, rfl⟩
      show R.Ok (R.whl _ _ (997 + 3) _) _
      obtain ⟨p1, t1, g1, e1⟩ := body [a, b] 0 1 ⟨a, b, rfl⟩
      obtain ⟨p2, t2, g2, e2⟩ := body p1 t1 (1 * 16777216) g1
      unfold R.whl
      rw [R.bind_ok]
      refine R.Ok.ite (fun _ => ?_) fun _ => ⟨_, rfl, _, rfl, ⟨a, b, rfl⟩⟩
      rw [e1, R.bind_ok]
      show R.Ok (R.whl _ _ (997 + 2) _) _
      unfold R.whl
      rw [R.bind_ok]
      refine R.Ok.ite (fun _ => ?_) fun _ => ⟨_, rfl, _, rfl, g1⟩
      rw [e2, R.bind_ok]
      show R.Ok (R.whl _ _ (997 + 1) _) _
      unfold R.whl
      rw [R.bind_ok]
      refine R.Ok.ite (fun h => ?_) fun _ => ⟨_, rfl, _, rfl, g2⟩
      have := of_decide_eq_true h
      simp only at this
      omega
    · refine R.Ok.bindV (R.mod_ok' h0) ?_
      exact R.Ok.pure ⟨⟨Int.emod_nonneg _ (by omega), Int.emod_lt_of_pos _ h0⟩, hs⟩
def prs (many : Int) : List (Int × Int) := (irange 0 many).flatMap fun one => (irange (one + 1) many).map fun two => (one, two)
theorem mem_prs {many : Int} {p : Int × Int} : p ∈ prs many ↔ 0 ≤ p.1 ∧ p.1 < p.2 ∧ p.2 < many := by
  unfold prs
  rw [List.mem_flatMap]
  constructor
  · rintro ⟨a, h1, h2⟩
    obtain ⟨b, h3, rfl⟩ := List.mem_map.mp h2
    have h1 := mem_irange.mp h1
    have h3 := mem_irange.mp h3
    show 0 ≤ a ∧ a < b ∧ b < many
    omega
  · intro h
    exact ⟨p.1, mem_irange.mpr (by omega), List.mem_map.mpr ⟨p.2, mem_irange.mpr (by omega), rfl⟩⟩
theorem pairs_of_ok {many : Int} (h : many ∈ irange 1 9) : p_pairs_of many = .ok (prs many) := by
  have k : ∀ many ∈ irange 1 9, R.chk (p_pairs_of many) (fun o => decide (o = prs many)) = true := by decide +kernel
  exact R.valK (k many h)
theorem law_pairs_ok {many : Int} (h : many ∈ irange 1 9) : p_Llaw_pairs many = .ok (prs many) := by
  have k : ∀ many ∈ irange 1 9, R.chk (p_Llaw_pairs many) (fun o => decide (o = prs many)) = true := by decide +kernel
  exact R.valK (k many h)
theorem own_len {many : Int} (h : many ∈ irange 1 9) : many * (many - 1) / 2 = ((prs many).length : Int) ∧ (prs many).length ≤ 28 ∧ (prs many).Nodup := by
  have k : ∀ many ∈ irange 1 9, many * (many - 1) / 2 = ((prs many).length : Int) ∧ (prs many).length ≤ 28 ∧ (prs many).Nodup := by decide +kernel
  exact k many h
/-! sums -/
theorem sum_add {α : Type} (f g : α → Int) : ∀ l : List α, (l.map fun a => f a + g a).sum = (l.map f).sum + (l.map g).sum
  | [] => rfl
  | a :: l => by rw [List.map_cons, List.sum_cons, sum_add f g l, List.map_cons, List.sum_cons, List.map_cons, List.sum_cons]; omega
theorem sum_zero {α : Type} : ∀ l : List α, (l.map fun _ => (0 : Int)).sum = 0
  | [] => rfl
  | a :: l => by rw [List.map_cons, List.sum_cons, sum_zero l]; rfl
theorem sum_swap {α β : Type} (f : α → β → Int) (m : List β) : ∀ l : List α, (l.map fun a => (m.map (f a)).sum).sum = (m.map fun b => (l.map fun a => f a b).sum).sum
  | [] => (sum_zero m).symm
  | a :: l => by
    rw [List.map_cons, List.sum_cons, sum_swap f m l, ← sum_add]
    rfl
theorem sum_congr {α : Type} {f g : α → Int} {l : List α} (h : ∀ a ∈ l, f a = g a) : (l.map f).sum = (l.map g).sum := congrArg List.sum (List.map_congr_left h)
theorem sum_one (a c : Int) : ∀ l : List Int, (l.map fun j => if a = j then c else 0).sum = c * (l.count a : Int)
  | [] => by rw [List.count_nil]; simp
  | j :: l => by
    rw [List.map_cons, List.sum_cons, sum_one a c l, List.count_cons]
    by_cases h : a = j
    · subst h; simp; rw [Int.mul_add]; omega
    · rw [if_neg h, if_neg (by simpa using Ne.symm h)]; simp
def con (j : Int) (w : (Int × Int) × Int) : Int := (if w.1.1 = j then w.2 else 0) + (if w.1.2 = j then 2 - w.2 else 0)
def due (many : Int) (hs : List Int) : List Int := (irange 0 many).map fun j => (((prs many).zip hs).map (con j)).sum
theorem eq_by_getZ {many : Int} {m : List Int} {g : Int → Int} (hm : 0 ≤ many) (hl : (m.length : Int) = many) (h : ∀ j, 0 ≤ j → j < many → getZ m j = g j) : m = (irange 0 many).map g := by
  refine List.ext_getElem (by rw [List.length_map, length_irange]; omega) fun i h1 h2 => ?_
  rw [List.getElem_map]
  have e : (irange 0 many)[i]'(by rw [length_irange]; omega) = (i : Int) := by
    unfold irange
    rw [List.getElem_map, List.getElem_range]; omega
  rw [e, ← h i (by omega) (by omega)]
  unfold getZ
  rw [List.getD_eq_getElem?_getD, Int.toNat_natCast, List.getElem?_eq_getElem h1]; rfl
theorem getZ_put {l : List Int} {i j v : Int} (hi : 0 ≤ i) (h : i < l.length) (hj : 0 ≤ j) : getZ (l.set i.toNat v) j = if i = j then v else getZ l j := by
  obtain ⟨k, rfl⟩ := Int.eq_ofNat_of_zero_le hj
  rw [getZ_set (by omega)]
  by_cases e : i = (k : Int)
  · rw [if_pos e, if_pos (by omega)]
  · rw [if_neg e, if_neg (by omega)]
theorem getZ_rep (n : Nat) (q : Int) : getZ (List.replicate n 0) q = 0 := by
  unfold getZ
  rw [List.getD_eq_getElem?_getD, List.getElem?_replicate]; split <;> rfl
theorem halves_fold {many : Int} {L : List ((Int × Int) × Int)} (hm : 0 ≤ many) (hL : ∀ w ∈ L, 0 ≤ w.1.1 ∧ w.1.1 < w.1.2 ∧ w.1.2 < many) :
    R.fold (fun (m3 : List Int) (w4 : (Int × Int) × Int) =>
    (R.idx (m3 : List Int) w4.1.1).bind fun x5 =>
    (R.setI m3 w4.1.1 (x5 + w4.2)).bind fun told6 =>
    (R.idx (told6 : List Int) w4.1.2).bind fun x7 =>
    (R.setI told6 w4.1.2 ((x7 + 2) - w4.2)).bind fun told8 => .ok told8) (List.replicate many.toNat 0) L = .ok ((irange 0 many).map fun j => (L.map (con j)).sum) := by
  refine R.Ok.val ((R.Ok.foldP (fun pre m => (m.length : Int) = many ∧ ∀ j, 0 ≤ j → j < many → getZ m j = (pre.map (con j)).sum) ⟨by rw [List.length_replicate]; omega, fun j _ _ => getZ_rep _ _⟩ ?_).mono fun m h => eq_by_getZ hm h.1 h.2)
  intro pre w post m e ⟨g1, g2⟩
  obtain ⟨b1, b2, b3⟩ := hL w (by rw [e]; simp)
  rw [getZ_idx b1 (by omega), R.bind_ok, R.setI_ok b1 (by omega), R.bind_ok, getZ_idx (by omega) (by rw [List.length_set]; omega), R.bind_ok, R.setI_ok (by omega) (by rw [List.length_set]; omega), R.bind_ok]
  refine R.Ok.pure ⟨by rw [List.length_set, List.length_set]; exact g1, fun j h0 h1 => ?_⟩
  rw [getZ_put (by omega) (by rw [List.length_set]; omega) h0, getZ_put b1 (by omega) (by omega), getZ_put b1 (by omega) h0, List.map_append, List.sum_append, ← g2 j h0 h1]
  rw [if_neg (show ¬ w.1.1 = w.1.2 by omega)]
  simp only [List.map_cons, List.map_nil, List.sum_cons, List.sum_nil]
  unfold con
  by_cases e1 : w.1.1 = j
  · subst e1
    rw [if_pos rfl, if_pos rfl, if_neg (by omega), if_neg (by omega)]; omega
  · rw [if_neg e1, if_neg e1]
    by_cases e2 : w.1.2 = j
    · subst e2
      rw [if_pos rfl, if_pos rfl]; omega
    · rw [if_neg e2, if_neg e2]; omega
structure HOk (many : Int) (hs : List Int) : Prop where
  len : hs.length = (prs many).length
  bit : ∀ h ∈ hs, 0 ≤ h ∧ h ≤ 2
theorem zip_ok {many : Int} {hs : List Int} : ∀ w ∈ (prs many).zip hs, 0 ≤ w.1.1 ∧ w.1.1 < w.1.2 ∧ w.1.2 < many := fun w m => mem_prs.mp (List.of_mem_zip m).1
theorem repL_zero {many : Int} (h : many ∈ irange 1 9) : R.repL ([0] : List Int) many = .ok (List.replicate many.toNat 0) := by
  have h := mem_irange.mp h
  unfold R.repL
  rw [if_pos (decide_eq_true ⟨by show 1 * many.toNat ≤ 1000000; omega, by show many < 1000000; omega, by show -1000000 < many; omega⟩)]
  congr 1
  induction many.toNat with
  | zero => rfl
  | succ n ih => rw [List.replicate_succ, List.flatten_cons, ih, List.replicate_succ]; rfl
theorem sum_of_ok {many : Int} {hs : List Int} (hm : many ∈ irange 1 9) : p_Llaw_sum_of many hs = .ok (due many hs) := by
  have h := mem_irange.mp hm
  unfold p_Llaw_sum_of
  rw [repL_zero hm, R.bind_ok, law_pairs_ok hm, R.bind_ok, halves_fold (by omega) zip_ok]; rfl
theorem own_by_ok {k : Int} (h : k.natAbs < 1000) : p_own_games_by k = .ok (k * (k - 1) / 2) := by
  unfold p_own_games_by
  rw [R.mul_ok' (.inl (by omega))]; rfl
theorem num_ok {many : Int} (h : 1 ≤ many ∧ many < 9) : p_check_number many 1 8 = .ok () := by
  unfold p_check_number p_is_between p_is_whole
  rw [decide_eq_true (show (1 : Int) ≤ many by omega), decide_eq_true (show many ≤ 8 by omega)]; rfl
theorem halves_points_ok {many : Int} {hs : List Int} (hm : many ∈ irange 1 9) (hh : HOk many hs) : p_halves_points many hs = .ok (due many hs) := by
  have h := mem_irange.mp hm
  obtain ⟨o1, o2, _⟩ := own_len hm
  have hl := hh.len
  unfold p_halves_points
  rw [num_ok h, R.bind_ok]
  refine R.bindV (a := []) ?_ ?_
  · unfold p_wrong_in_halves p_first_wrong
    rw [own_by_ok (by omega), R.bind_ok, R.bind_ok, o1]
    have e1 : (!((decide (((prs many).length : Int) ≤ (hs.length : Int))) && (decide ((hs.length : Int) ≤ ((prs many).length : Int))))) = false := by
      rw [decide_eq_true (by omega), decide_eq_true (by omega)]; rfl
    have e2 : ((enumA hs).filter fun (w : Int × Int) => (!(p_is_half w.2))) = [] := by
      rw [List.filter_eq_nil_iff]
      intro w m
      unfold enumA at m
      obtain ⟨q, hq, rfl⟩ := List.mem_map.mp m
      obtain ⟨b1, b2⟩ := hh.bit q.1 (List.fst_mem_of_mem_zipIdx hq)
      show ¬ (!(true && (decide ((0 : Int) ≤ q.1) && decide (q.1 ≤ 2)))) = true
      rw [decide_eq_true b1, decide_eq_true b2]; simp
    rw [if_neg (by rw [e1]; decide), R.bind_ok, R.cap_ok (by unfold enumA; rw [List.length_map, List.length_zipIdx]; omega), R.bind_ok, e2]
    rfl
  · refine R.bindV (a := ()) rfl ?_
    unfold p_points_of_halves
    rw [R.rng_ok (by omega), R.bind_ok, R.cap_ok (by rw [length_irange]; omega), R.bind_ok, R.bind_ok, pairs_of_ok hm, R.bind_ok]
    have e : ((irange 0 many).map fun (x2 : Int) => (0 : Int)) = List.replicate many.toNat 0 := by
      rw [List.map_const', length_irange, Int.sub_zero]
    rw [e, halves_fold (by omega) zip_ok]; rfl
/-! the sums over lots -/
theorem getZ_due {many : Int} {hs : List Int} {j : Int} (h0 : 0 ≤ j) (h1 : j < many) : getZ (due many hs) j = (((prs many).zip hs).map (con j)).sum := by
  unfold due getZ
  rw [List.getD_eq_getElem?_getD, List.getElem?_map, show j.toNat = (j.toNat : Nat) from rfl, irange_get (by omega)]
  show (((prs many).zip hs).map (con (0 + (j.toNat : Int)))).sum = _
  rw [show 0 + (j.toNat : Int) = j by omega]
theorem lot_sum {many : Int} {hs lot : List Int} (hl : ∀ j ∈ lot, 0 ≤ j ∧ j < many) : (lot.map (getZ (due many hs))).sum = (((prs many).zip hs).map fun w => w.2 * (lot.count w.1.1 : Int) + (2 - w.2) * (lot.count w.1.2 : Int)).sum := by
  rw [sum_congr fun j m => getZ_due (hl j m).1 (hl j m).2, sum_swap]
  refine sum_congr fun w _ => ?_
  unfold con
  rw [sum_add, sum_one, sum_one]
theorem zip_fst_sum {α β : Type} (f : α → Int) : ∀ (l : List α) (m : List β), m.length = l.length → ((l.zip m).map fun w => f w.1).sum = (l.map f).sum
  | [], _, _ => rfl
  | a :: l, [], h => by cases h
  | a :: l, b :: m, h => by
    rw [List.zip_cons_cons, List.map_cons, List.sum_cons, zip_fst_sum f l m (by simpa using h), List.map_cons, List.sum_cons]
def lotOf (r : R (List (List Int))) : List (List Int) := match r with
  | .ok l => l
  | _ => []
def LOT (n : Int) : List (List Int) := lotOf (p_lots_of n)
def inB (lot : List Int) (p : Int × Int) : Int := if decide (lot.count p.1 = 1 ∧ lot.count p.2 = 1) then 2 else 0
def lotsB (n : Int) : Bool := R.chk (p_lots_of n) fun a => decide (a.length ≤ 1000) && a.all fun lot => decide (lot.length ≤ 8) && (lot.all fun p => decide (0 ≤ p ∧ p < n)) && ((irange 0 n).all fun p => decide (lot.count p ≤ 1)) && decide (((prs n).map (inB lot)).sum = 2 * ((lot.length : Int) * ((lot.length : Int) - 1) / 2))
theorem lots_all : ∀ n ∈ irange 1 9, lotsB n = true := by decide +kernel

theorem lots_ok {n : Int} (hn : n ∈ irange 1 9) : p_lots_of n = .ok (LOT n) ∧ (LOT n).length ≤ 1000 ∧ ∀ lot ∈ LOT n, lot.length ≤ 8 ∧ (∀ p ∈ lot, 0 ≤ p ∧ p < n) ∧ (∀ p, 0 ≤ p → p < n → lot.count p ≤ 1) ∧ ((prs n).map (inB lot)).sum = 2 * ((lot.length : Int) * ((lot.length : Int) - 1) / 2) := by
  have h := lots_all n hn
  unfold lotsB at h
  obtain ⟨a, ea, h⟩ := R.chkE h
  simp only [Bool.and_eq_true, decide_eq_true_eq, List.all_eq_true] at h
  obtain ⟨h1, h2⟩ := h
  have e : LOT n = a := by unfold LOT; rw [ea]; rfl
  rw [e]
  refine ⟨ea, h1, fun lot m => ?_⟩
  obtain ⟨⟨⟨q1, q2⟩, q3⟩, q4⟩ := h2 lot m
  exact ⟨q1, q2, fun p h0 h1 => q3 p (mem_irange.mpr ⟨h0, h1⟩), q4⟩
theorem due_len {many : Int} {hs : List Int} (h : 0 ≤ many) : ((due many hs).length : Int) = many := by unfold due; rw [List.length_map, length_irange]; omega
theorem con_nonneg {j : Int} {w : (Int × Int) × Int} (h : 0 ≤ w.2 ∧ w.2 ≤ 2) : 0 ≤ con j w := by
  unfold con
  split <;> split <;> omega
theorem due_nonneg {many : Int} {hs : List Int} (hh : HOk many hs) : ∀ x ∈ due many hs, 0 ≤ x := fun x m => by
  unfold due at m
  obtain ⟨j, _, rfl⟩ := List.mem_map.mp m
  refine sum_nonneg fun y m => ?_
  obtain ⟨w, mw, rfl⟩ := List.mem_map.mp m
  exact con_nonneg (hh.bit _ (List.of_mem_zip mw).2)
theorem lot_lower {many : Int} {hs lot : List Int} (hh : HOk many hs) (h2 : ∀ p ∈ lot, 0 ≤ p ∧ p < many) (h3 : ∀ p, 0 ≤ p → p < many → lot.count p ≤ 1) (h4 : ((prs many).map (inB lot)).sum = 2 * ((lot.length : Int) * ((lot.length : Int) - 1) / 2)) :
    2 * ((lot.length : Int) * ((lot.length : Int) - 1) / 2) ≤ (lot.map (getZ (due many hs))).sum := by
  rw [lot_sum h2, ← h4, ← zip_fst_sum (inB lot) (prs many) hs hh.len]
  refine sum_map_le fun w m => ?_
  obtain ⟨b1, b2, b3⟩ := zip_ok w m
  obtain ⟨c1, c2⟩ := hh.bit _ (List.of_mem_zip m).2
  have d1 := h3 w.1.1 b1 (by omega)
  have d2 := h3 w.1.2 (by omega) b3
  unfold inB
  have e1 : lot.count w.1.1 = 0 ∨ lot.count w.1.1 = 1 := by omega
  have e2 : lot.count w.1.2 = 0 ∨ lot.count w.1.2 = 1 := by omega
  rcases e1 with e1 | e1 <;> rcases e2 with e2 | e2 <;> rw [e1, e2] <;> simp <;> omega
def twoP (_ : Int × Int) : Int := 2
theorem due_sum {many : Int} {hs : List Int} (hm : many ∈ irange 1 9) (hh : HOk many hs) : (due many hs).sum = 2 * (many * (many - 1) / 2) := by
  have k : ∀ many ∈ irange 1 9, ∀ p ∈ irange 0 many, (irange 0 many).count p = 1 := by decide +kernel
  unfold due
  rw [sum_swap, (own_len hm).1]
  have e : (((prs many).zip hs).map fun w => ((irange 0 many).map fun j => con j w).sum).sum = (((prs many).zip hs).map fun w => twoP w.1).sum := sum_congr fun w m => by
    obtain ⟨b1, b2, b3⟩ := zip_ok w m
    unfold con
    rw [sum_add, sum_one, sum_one, k many hm _ (mem_irange.mpr ⟨b1, by omega⟩), k many hm _ (mem_irange.mpr ⟨by omega, b3⟩)]
    show w.2 * 1 + (2 - w.2) * 1 = 2
    omega
  rw [e, zip_fst_sum twoP _ _ hh.len]
  clear e
  induction prs many with
  | nil => rfl
  | cons a l ih => rw [List.map_cons, List.sum_cons, ih, List.length_cons]; show 2 + _ = _; omega
theorem check_ok {ns : List Int} (hn : (ns.length : Int) ∈ irange 1 9) (h : ∀ i ∈ ns, 0 ≤ i) : p_check_numbers ns = .ok () := by
  have hb := mem_irange.mp hn
  unfold p_check_numbers p_first_wrong_1
  have e1 : (!((decide ((1 : Int) ≤ (ns.length : Int))) && (decide ((ns.length : Int) ≤ 8)))) = false := by
    rw [decide_eq_true (by omega), decide_eq_true (by omega)]; rfl
  have e2 : ((enumA ns).filter fun (w : Int × Int) => (!(p_is_number w.2))) = [] := by
    rw [List.filter_eq_nil_iff]
    intro w m
    unfold enumA at m
    obtain ⟨q, hq, rfl⟩ := List.mem_map.mp m
    have : q.1 ∈ ns := List.fst_mem_of_mem_zipIdx hq
    show ¬ (!(true && decide ((0 : Int) ≤ q.1))) = true
    rw [decide_eq_true (h _ this)]; simp
  rw [if_neg (by rw [e1]; decide), R.bind_ok, R.cap_ok (by unfold enumA; rw [List.length_map, List.length_zipIdx]; omega), R.bind_ok, e2]
  rfl
theorem halves_list_ok {many : Int} {hs : List Int} (hm : many ∈ irange 1 9) (hh : HOk many hs) : p_is_halves_list (due many hs) = .ok true := by
  have h := mem_irange.mp hm
  have hl := due_len (many := many) (hs := hs) (by omega)
  obtain ⟨e, l1, l2⟩ := lots_ok hm
  unfold p_is_halves_list p_is_halves_list_by p_has_right_sum p_short_halves_lot_by
  rw [check_ok (by rw [hl]; exact hm) (due_nonneg hh), R.bind_ok, hl, own_by_ok (by omega), R.bind_ok, R.bind_ok, due_sum hm hh, if_pos (decide_eq_true rfl), e, R.bind_ok]
  refine R.bindV (a := true) (R.bindV (a := true) (R.bindV (a := none) ?_ rfl) rfl) rfl
  refine R.bindV (R.each_filter (p := fun _ => false) fun lot m => ?_) ?_
  · obtain ⟨q1, q2, q3, q4⟩ := l2 lot m
    have hs' : p_sum_over (due many hs) lot = .ok (lot.map (getZ (due many hs))).sum := by
      unfold p_sum_over
      rw [R.mapR_eq (g := getZ (due many hs)) fun a ma => by rw [getZ_idx (q2 a ma).1 (by rw [hl]; exact (q2 a ma).2)]; rfl, R.bind_ok, R.cap_ok (by rw [List.length_map]; omega), R.bind_ok]
    have low := lot_lower hh q2 q3 q4
    rw [hs', R.bind_ok, own_by_ok (by omega), R.bind_ok, if_neg (by simpa using low)]; rfl
  · have e0 : (LOT many).filter (fun _ => false) = [] := by rw [List.filter_eq_nil_iff]; intro _ _ z; cases z
    rw [e0]; rfl
/-! the other way round -/
theorem sum_sub {α : Type} (f g : α → Int) : ∀ l : List α, (l.map fun a => f a - g a).sum = (l.map f).sum - (l.map g).sum
  | [] => rfl
  | a :: l => by rw [List.map_cons, List.sum_cons, sum_sub f g l, List.map_cons, List.sum_cons, List.map_cons, List.sum_cons]; omega
def deg (j : Int) (p : Int × Int) : Int := (if p.1 = j then 2 else 0) + (if p.2 = j then 2 else 0)
theorem back_at {many : Int} {hs : List Int} {j : Int} (hm : many ∈ irange 1 9) (hh : HOk many hs) (hj : j ∈ irange 0 many) : (((prs many).zip (hs.map fun x => 2 - x)).map (con j)).sum = 2 * (many - 1) - (((prs many).zip hs).map (con j)).sum := by
  have k : ∀ many ∈ irange 1 9, ∀ j ∈ irange 0 many, ((prs many).map (deg j)).sum = 2 * (many - 1) := by decide +kernel
  rw [← k many hm j hj, ← zip_fst_sum (deg j) (prs many) hs hh.len, ← sum_sub, List.zip_map_right, List.map_map]
  refine sum_congr fun w _ => ?_
  show (if w.1.1 = j then 2 - w.2 else 0) + (if w.1.2 = j then 2 - (2 - w.2) else 0) = ((if w.1.1 = j then 2 else 0) + (if w.1.2 = j then 2 else 0)) - ((if w.1.1 = j then w.2 else 0) + (if w.1.2 = j then 2 - w.2 else 0))
  split <;> split <;> omega
theorem back_ok {many : Int} {hs : List Int} (hm : many ∈ irange 1 9) (hh : HOk many hs) : due many (hs.map fun x => 2 - x) = (due many hs).map fun x => (2 * (many - 1)) - x := by
  unfold due
  rw [List.map_map]
  exact List.map_congr_left fun j hj => back_at hm hh hj
theorem HOk.back {many : Int} {hs : List Int} (hh : HOk many hs) : HOk many (hs.map fun x => 2 - x) :=
  ⟨by rw [List.length_map]; exact hh.len, fun x m => by obtain ⟨y, my, rfl⟩ := List.mem_map.mp m; have := hh.bit y my; omega⟩
theorem flat_rep {α : Type} (a : α) : ∀ n : Nat, (List.replicate n [a]).flatten = List.replicate n a
  | 0 => rfl
  | n + 1 => by rw [List.replicate_succ, List.flatten_cons, flat_rep a n, List.replicate_succ]; rfl
theorem repT_ok {a k : Int} (h0 : -1000 ≤ k) (h1 : k ≤ 1000) : R.repT [a] k = .ok (List.replicate k.toNat a) := by
  unfold R.repT
  rw [if_pos (decide_eq_true ⟨by show 0 < 1; decide, h0, h1, by show 1 ≤ 1000; decide⟩), flat_rep]
theorem ones_ok {many : Int} (hm : many ∈ irange 1 9) : HOk many (List.replicate (prs many).length 1) ∧ due many (List.replicate (prs many).length 1) = List.replicate many.toNat (many - 1) := by
  have h := mem_irange.mp hm
  have hh : HOk many (List.replicate (prs many).length 1) := ⟨List.length_replicate, fun x m => by rw [List.eq_of_mem_replicate m]; decide⟩
  refine ⟨hh, ?_⟩
  have e : (List.replicate (prs many).length (1 : Int)).map (fun x => 2 - x) = List.replicate (prs many).length 1 := by rw [List.map_replicate]; rfl
  have : due many (List.replicate (prs many).length 1) = (irange 0 many).map fun _ => many - 1 := by
    unfold due
    refine List.map_congr_left fun j hj => ?_
    have b := back_at hm hh hj
    rw [e] at b
    omega
  rw [this, List.map_const', length_irange, Int.sub_zero]
end G51

set_option Elab.async false
set_option linter.all false
set_option maxRecDepth 100000
set_option maxHeartbeats 4000000
set_option exponentiation.threshold 500000
set_option autoImplicit false
namespace G51
open Ev
open Ev.R (Lp)
open PySem (Str PyData)
theorem erase_perm {α : Type} : ∀ {l : List α} {i : Nat} (h : i < l.length), (l[i] :: l.eraseIdx i).Perm l
  | [], _, h => absurd h (Nat.not_lt_zero _)
  | a :: l, 0, _ => List.Perm.refl _
  | a :: l, i + 1, h => (List.Perm.swap a (l[i]'(Nat.lt_of_succ_lt_succ h)) (l.eraseIdx i)).trans ((erase_perm (l := l) (i := i) (Nat.lt_of_succ_lt_succ h)).cons a)
theorem popI_ok {α : Type} {l : List α} {i : Int} (h0 : 0 ≤ i) (h : i < l.length) : ∃ x, l[i.toNat]? = some x ∧ R.popI l i = .ok (x, l.eraseIdx i.toNat) := by
  have hl : i.toNat < l.length := by omega
  refine ⟨l[i.toNat], List.getElem?_eq_getElem hl, ?_⟩
  unfold R.popI
  rw [R.ixN_ok h0 h]
  show (R.of l[i.toNat]?).bind _ = _
  rw [List.getElem?_eq_getElem hl]; rfl
theorem order_whl : ∀ (fuel : Nat) (s : List Int × List Int × List Int), s.2.1.length < fuel → s.2.2.length + s.2.1.length ≤ 8 → Pool s.1 →
    R.Ok (R.whl (ρ := Empty) (fun (m2 : List Int × List Int × List Int) => .ok ((!(decide (m2.2.1 = ([] : List Int)))), (m2.1, m2.2.1, m2.2.2))) (fun (m2 : List Int × List Int × List Int) =>
    (p_Llaw_take m2.1 (m2.2.1.length : Int)).bind fun take3 =>
    (R.popI m2.2.1 take3.1).bind fun x4 =>
    (R.app (m2.2.2 : List Int) x4.1).bind fun found5 => .ok (.nx (take3.2, x4.2, found5))) fuel s) fun o => ∃ s', o = .nx s' ∧ (Pool s'.1 ∧ s'.2.2.Perm (s.2.2 ++ s.2.1))
  | 0, _, h, _, _ => absurd h (Nat.not_lt_zero _)
  | fuel + 1, (p, l, f), h, h2, hp => by
    unfold R.whl
    rw [R.bind_ok]
    refine R.Ok.ite (fun hc => ?_) fun hc => ?_
    · have hne : l ≠ [] := by simpa using hc
      have hpos : 0 < l.length := List.length_pos_iff.mpr hne
      have h : l.length < fuel + 1 := h
      have h2 : f.length + l.length ≤ 8 := h2
      refine R.Ok.bind (P := fun o => ∃ p' x i, o = .nx (p', l.eraseIdx i, f ++ [x]) ∧ Pool p' ∧ l[i]? = some x) ?_ fun o ho => ?_
      · refine R.Ok.bind (take_ok hp (by show (0 : Int) < (l.length : Int); omega) (by show (l.length : Int) ≤ 2 ^ 24; omega)) fun t ht => ?_
        obtain ⟨x, hx, e⟩ := popI_ok (l := l) ht.1.1 ht.1.2
        rw [e, R.bind_ok, R.app_ok (by show f.length < 1000000; omega), R.bind_ok]
        exact R.Ok.pure ⟨_, x, t.1.toNat, rfl, ht.2, hx⟩
      · obtain ⟨p', x, i, rfl, hp', hx⟩ := ho
        obtain ⟨hi, hx2⟩ := List.getElem?_eq_some_iff.mp hx
        have hl : (l.eraseIdx i).length = l.length - 1 := List.length_eraseIdx_of_lt hi
        refine (order_whl fuel (p', l.eraseIdx i, f ++ [x]) (by show (l.eraseIdx i).length < fuel; omega) (by show (f ++ [x]).length + (l.eraseIdx i).length ≤ 8; rw [List.length_append, hl]; simp; omega) hp').mono fun o ⟨s', e, q1, q2⟩ => ⟨s', e, q1, q2.trans ?_⟩
        show (f ++ [x] ++ l.eraseIdx i).Perm (f ++ l)
        rw [List.append_assoc]
        refine List.Perm.append_left f ?_
        rw [← hx2]
        exact erase_perm hi
    · have hn : l = [] := by simpa using hc
      subst hn
      exact ⟨_, rfl, _, rfl, hp, by rw [List.append_nil]⟩
theorem order_ok {many : Int} {pool : List Int} (hp : Pool pool) (hm : many ∈ irange 1 9) : R.Ok (p_Llaw_order pool many) fun x => x.1.Perm (irange 0 many) ∧ Pool x.2 := by
  have h := mem_irange.mp hm
  unfold p_Llaw_order
  rw [R.rng_ok (by omega), R.bind_ok]
  have hl : (irange 0 many).length ≤ 8 := by rw [length_irange]; omega
  refine R.Ok.then (order_whl WH (pool, irange 0 many, []) (by show (irange 0 many).length < 1000; omega) (by show 0 + (irange 0 many).length ≤ 8; omega) hp) fun s hs => R.Ok.pure ⟨?_, hs.1⟩
  have := hs.2
  rwa [List.nil_append] at this
def nrm (p : Int × Int) : Int × Int := if p.1 < p.2 then p else (p.2, p.1)
theorem nrm_swap (a b : Int) : nrm (b, a) = nrm (a, b) := by
  unfold nrm
  simp only
  split <;> split <;> first | rfl | (exact Prod.ext (by simp only; omega) (by simp only; omega)) | (exfalso; omega)
structure Win (many : Int) (w : List (Int × Int)) : Prop where
  perm : (w.map nrm).Perm (prs many)
  up : w.Pairwise fun a b => lexP a b = true
theorem irange_nodup (n : Int) : (irange 0 n).Nodup := by
  unfold irange
  exact List.pairwise_map.mpr (List.nodup_range.imp fun {a b} (h : a ≠ b) => by omega)
theorem order_at {many : Int} {o : List Int} (ho : o.Perm (irange 0 many)) (hm : 0 ≤ many) :
    (∀ i, 0 ≤ i → i < many → 0 ≤ getZ o i ∧ getZ o i < many) ∧ (∀ i j, 0 ≤ i → i < many → 0 ≤ j → j < many → getZ o i = getZ o j → i = j) ∧ ∀ x, 0 ≤ x → x < many → ∃ i, 0 ≤ i ∧ i < many ∧ getZ o i = x := by
  have hl : (o.length : Int) = many := by rw [ho.length_eq, length_irange]; omega
  have nd : o.Nodup := (ho.nodup_iff).mpr (irange_nodup many)
  have at_ : ∀ i, 0 ≤ i → i < many → ∃ h : i.toNat < o.length, getZ o i = o[i.toNat] := fun i h0 h1 => by
    have h : i.toNat < o.length := by omega
    refine ⟨h, ?_⟩
    unfold getZ
    rw [List.getD_eq_getElem?_getD, List.getElem?_eq_getElem h]; rfl
  refine ⟨fun i h0 h1 => ?_, fun i j i0 i1 j0 j1 e => ?_, fun x h0 h1 => ?_⟩
  · exact mem_irange.mp (ho.mem_iff.mp (getZ_mem h0 (by omega)))
  · obtain ⟨hi, ei⟩ := at_ i i0 i1
    obtain ⟨hj, ej⟩ := at_ j j0 j1
    rw [ei, ej] at e
    rcases Nat.lt_trichotomy i.toNat j.toNat with q | q | q
    · exact absurd e (List.pairwise_iff_getElem.mp nd _ _ hi hj q)
    · omega
    · exact absurd e.symm (List.pairwise_iff_getElem.mp nd _ _ hj hi q)
  · obtain ⟨k, hk, e⟩ := List.getElem_of_mem (ho.mem_iff.mpr (mem_irange.mpr ⟨h0, h1⟩))
    refine ⟨(k : Int), by omega, by omega, ?_⟩
    unfold getZ
    rw [Int.toNat_natCast, List.getD_eq_getElem?_getD, List.getElem?_eq_getElem hk, e]; rfl
theorem nrm_eq {a b c d : Int} (h : nrm (a, b) = nrm (c, d)) : (a = c ∧ b = d) ∨ (a = d ∧ b = c) := by
  unfold nrm at h
  simp only at h
  split at h <;> split at h <;> (have h1 := congrArg Prod.fst h; have h2 := congrArg Prod.snd h; simp only at h1 h2; omega)
theorem order_perm {many : Int} {o : List Int} (hm : many ∈ irange 1 9) (ho : o.Perm (irange 0 many)) : ((prs many).map fun p => nrm (getZ o p.1, getZ o p.2)).Perm (prs many) := by
  have h := mem_irange.mp hm
  obtain ⟨r, inj, sur⟩ := order_at ho (by omega)
  have nd := (own_len hm).2.2
  have mem : ∀ p ∈ prs many, nrm (getZ o p.1, getZ o p.2) ∈ prs many := fun p m => by
    obtain ⟨b1, b2, b3⟩ := mem_prs.mp m
    have r1 := r p.1 b1 (by omega)
    have r2 := r p.2 (by omega) b3
    have ne : getZ o p.1 ≠ getZ o p.2 := fun e => by have := inj _ _ b1 (by omega) (by omega) b3 e; omega
    refine mem_prs.mpr ?_
    unfold nrm
    simp only
    split
    · simp only; omega
    · simp only; omega
  have nd2 : ((prs many).map fun p => nrm (getZ o p.1, getZ o p.2)).Nodup := by
    refine List.pairwise_map.mpr (List.Pairwise.imp_of_mem (fun {a b} ma mb ne => ?_) nd)
    obtain ⟨a1, a2, a3⟩ := mem_prs.mp ma
    obtain ⟨b1, b2, b3⟩ := mem_prs.mp mb
    intro e
    rcases nrm_eq e with ⟨e1, e2⟩ | ⟨e1, e2⟩
    · exact ne (Prod.ext (inj _ _ a1 (by omega) b1 (by omega) e1) (inj _ _ (by omega) a3 (by omega) b3 e2))
    · have k1 := inj _ _ a1 (by omega) (by omega) b3 e1
      have k2 := inj _ _ (by omega) a3 b1 (by omega) e2
      omega
  refine (List.perm_ext_iff_of_nodup nd2 nd).mpr fun q => ⟨fun m => ?_, fun m => ?_⟩
  · obtain ⟨p, mp, rfl⟩ := List.mem_map.mp m; exact mem p mp
  · obtain ⟨b1, b2, b3⟩ := mem_prs.mp m
    obtain ⟨i, i0, i1, ei⟩ := sur q.1 b1 (by omega)
    obtain ⟨j, j0, j1, ej⟩ := sur q.2 (by omega) b3
    have hq : nrm (q.1, q.2) = q := by unfold nrm; rw [if_pos b2]
    rcases Int.lt_trichotomy i j with lt | eq | gt
    · exact List.mem_map.mpr ⟨(i, j), mem_prs.mpr ⟨i0, lt, j1⟩, by simp only; rw [ei, ej, hq]⟩
    · rw [eq] at ei; rw [ei] at ej; omega
    · exact List.mem_map.mpr ⟨(j, i), mem_prs.mpr ⟨j0, gt, i1⟩, by simp only; rw [ei, ej, nrm_swap, hq]⟩
theorem lexP_tot {a b : Int × Int} (h : lexP b a = false) (ne : a ≠ b) : lexP a b = true := by
  unfold lexP at *
  have : a.1 ≠ b.1 ∨ a.2 ≠ b.2 := by
    by_cases e1 : a.1 = b.1
    · exact .inr fun e2 => ne (Prod.ext e1 e2)
    · exact .inl e1
  split at h <;> split <;> simp only [decide_eq_true_eq, decide_eq_false_iff_not] at * <;> omega
theorem results_ok {many : Int} {pool : List Int} (hp : Pool pool) (hm : many ∈ irange 1 9) : R.Ok (p_Llaw_results pool many) fun x => (x.1.1 = many ∧ Win many x.1.2) ∧ Pool x.2 := by
  have h := mem_irange.mp hm
  obtain ⟨_, ol, nd⟩ := own_len hm
  unfold p_Llaw_results
  refine R.Ok.bind (take_ok hp (by decide) (by decide)) fun t ht => ?_
  refine R.Ok.bind (order_ok ht.2 hm) fun o ho => ?_
  have hol : (o.1.length : Int) = many := by rw [ho.1.length_eq, length_irange]; omega
  rw [law_pairs_ok hm, R.bind_ok]
  refine R.Ok.bind (R.Ok.foldP (fun pre m => Pool m.1 ∧ (m.2 : List (Int × Int)).map nrm = pre.map fun p => nrm (getZ o.1 p.1, getZ o.1 p.2)) ⟨ho.2, rfl⟩ ?_) fun m hm' => ?_
  · intro pre w post m e ⟨g1, g2⟩
    obtain ⟨b1, b2, b3⟩ := mem_prs.mp (show w ∈ prs many by rw [e]; simp)
    have hl : pre.length < 28 := by
      have := congrArg List.length e
      rw [List.length_append, List.length_cons] at this
      omega
    have hl2 : m.2.length = pre.length := by have := congrArg List.length g2; rwa [List.length_map, List.length_map] at this
    rw [getZ_idx b1 (by omega), R.bind_ok, getZ_idx (by omega) (by omega), R.bind_ok]
    refine R.Ok.bind (take_ok g1 (by decide) (by decide)) fun u hu => ?_
    refine R.Ok.bindV rfl ?_
    refine R.Ok.bind (P := fun (x : List Int × Bool) => Pool x.1) (R.Ok.ite (fun _ => ?_) fun _ => R.Ok.pure hu.2) fun x hx => ?_
    · exact R.Ok.bind (take_ok hu.2 (by decide) (by decide)) fun v hv => R.Ok.bindV rfl (R.Ok.pure hv.2)
    refine R.Ok.bind (P := fun (x : List Int × Bool) => Pool x.1) (R.Ok.ite (fun _ => ?_) fun _ => R.Ok.pure hx) fun y hy => ?_
    · refine R.Ok.bind (P := fun (x : Bool × List Int) => Pool x.2) (R.Ok.ite (fun _ => ?_) fun _ => R.Ok.pure hx) fun z hz => R.Ok.pure hz
      exact R.Ok.bind (take_ok hx (by decide) (by decide)) fun v hv => R.Ok.pure hv.2
    rw [R.app_ok (by omega), R.bind_ok]
    refine R.Ok.pure ⟨hy, ?_⟩
    rw [List.map_append, List.map_append, g2]
    congr 1
    show [nrm (if y.2 then _ else _)] = [nrm _]
    split
    · rw [nrm_swap]
    · rfl
  refine R.Ok.pure ⟨⟨rfl, ?_⟩, hm'.1⟩
  have p1 : ((sortP m.2).map nrm).Perm (prs many) := ((sortB_perm lexP m.2).map nrm).trans (by rw [hm'.2]; exact order_perm hm ho.1)
  refine ⟨p1, ?_⟩
  have nd2 : (sortP m.2).Nodup := List.Pairwise.of_map nrm (fun a b k e => k (by rw [e])) (p1.nodup_iff.mpr nd)
  have both := List.pairwise_and_iff.mpr ⟨sortP_sorted m.2, nd2⟩
  exact both.imp fun {a b} k => lexP_tot k.1 k.2
/-! what the results' points are -/
theorem inj_of {α β : Type} {f : α → β} : ∀ {l : List α}, (l.map f).Nodup → ∀ a ∈ l, ∀ b ∈ l, f a = f b → a = b
  | [], _, _, m, _, _, _ => nomatch m
  | c :: l, nd, a, ma, b, mb, e => by
    rw [List.map_cons] at nd
    obtain ⟨n1, n2⟩ := List.nodup_cons.mp nd
    rcases List.mem_cons.mp ma with ea | ma2
    · rcases List.mem_cons.mp mb with eb | mb2
      · rw [ea, eb]
      · exact absurd (List.mem_map.mpr ⟨b, mb2, by rw [← e, ea]⟩) n1
    · rcases List.mem_cons.mp mb with eb | mb2
      · exact absurd (List.mem_map.mpr ⟨a, ma2, by rw [e, eb]⟩) n1
      · exact inj_of n2 a ma2 b mb2 e
theorem Win.rg {many : Int} {w : List (Int × Int)} (h : Win many w) {q : Int × Int} (m : q ∈ w) : 0 ≤ q.1 ∧ q.1 < many ∧ 0 ≤ q.2 ∧ q.2 < many ∧ q.1 ≠ q.2 := by
  have := mem_prs.mp (h.perm.mem_iff.mp (List.mem_map.mpr ⟨q, m, rfl⟩))
  unfold nrm at this
  split at this
  · omega
  · simp only at this; omega
theorem Win.no {many : Int} {w : List (Int × Int)} (hm : many ∈ irange 1 9) (h : Win many w) {a b : Int} (m : (a, b) ∈ w) : (b, a) ∉ w := fun m2 => by
  have nd := h.perm.nodup_iff.mpr (own_len hm).2.2
  have e := inj_of nd (a, b) m (b, a) m2 (nrm_swap b a)
  have := (h.rg m).2.2.2.2
  exact this (congrArg Prod.fst e)
theorem Win.len {many : Int} {w : List (Int × Int)} (hm : many ∈ irange 1 9) (h : Win many w) : w.length ≤ 28 := by
  have := h.perm.length_eq
  rw [List.length_map] at this
  rw [this]; exact (own_len hm).2.1
theorem all_map_true {α : Type} (l : List α) : (l.map fun _ => true).all id = true := by
  rw [List.all_eq_true]; intro x m
  obtain ⟨_, _, rfl⟩ := List.mem_map.mp m; rfl
theorem rising_ok {row : List (Int × Int)} (hl : row.length ≤ 28) (h : row.Pairwise fun a b => lexP a b = true) : p_are_rising row = .ok true := by
  unfold p_are_rising
  rw [R.rng_ok (by omega), R.bind_ok]
  refine R.bindV (R.mapR_eq (g := fun _ => true) fun i m => ?_) ?_
  · have m := mem_irange.mp m
    have l1 : (i - 1).toNat < row.length := by omega
    have l2 : i.toNat < row.length := by omega
    rw [R.idx_ok (by omega) (List.getElem?_eq_getElem l1), R.bind_ok, R.idx_ok (by omega) (List.getElem?_eq_getElem l2), R.bind_ok]
    exact congrArg R.ok (List.pairwise_iff_getElem.mp h _ _ l1 l2 (by omega))
  · rw [R.cap_ok (by rw [List.length_map, length_irange]; omega), R.bind_ok, all_map_true]
theorem games_ok {many : Int} {w : List (Int × Int)} (hm : many ∈ irange 1 9) (h : Win many w) : p_check_games (many, w) = .ok () := by
  have hb := mem_irange.mp hm
  have hl := h.len hm
  have hw : p_are_wins many w = .ok true := by
    unfold p_are_wins
    refine R.bindV (R.mapR_eq (g := fun _ => true) fun q m => ?_) ?_
    · obtain ⟨r1, r2, r3, r4, r5⟩ := h.rg m
      unfold p_is_win p_is_between p_is_whole p_is_tuple_of_1
      rw [decide_eq_true (show (0 : Int) ≤ q.1 by omega), decide_eq_true (show q.1 ≤ many - 1 by omega), decide_eq_true (show (0 : Int) ≤ q.2 by omega), decide_eq_true (show q.2 ≤ many - 1 by omega), decide_eq_false r5]; rfl
    · rw [R.cap_ok (by rw [List.length_map]; omega), R.bind_ok, all_map_true]
      refine R.bindV (a := false) ?_ ?_
      · refine (if_neg (by decide)).trans ?_
        rw [rising_ok hl h.up]; rfl
      · refine (if_neg (by decide)).trans ?_
        rw [R.cap_ok (by omega), R.bind_ok]
        have : (w.map fun (w7 : Int × Int) => (pmem (w7.2, w7.1) (w : List (Int × Int)))).any id = false := by
          rw [List.any_eq_false]
          intro x hx
          obtain ⟨q, m, rfl⟩ := List.mem_map.mp hx
          have : pmem (q.2, q.1) w = false := Bool.eq_false_iff.mpr fun z => h.no hm m ((pmem_iff _ _).mp z)
          rw [this]; decide
        rw [this]; rfl
  unfold p_check_games p_are_games_by p_is_tuple_of p_is_between p_is_whole
  rw [decide_eq_true (show (1 : Int) ≤ (many, w).1 from hb.1), decide_eq_true (show (many, w).1 ≤ 8 by show many ≤ 8; omega)]
  show (((p_are_wins many w).bind _).bind _) = _
  rw [hw]; rfl
def hit (j : Int) (q : Int × Int) : Int := if q.1 = j then 1 else 0
theorem points_ok {many : Int} {w : List (Int × Int)} (hm : many ∈ irange 1 9) (h : Win many w) : p_points (many, w) = .ok ((irange 0 many).map fun j => (w.map (hit j)).sum) := by
  have hb := mem_irange.mp hm
  unfold p_points p_points_by p_players_of
  rw [games_ok hm h, R.bind_ok]
  refine R.bindV ?_ rfl
  show (((R.rng 0 many).bind fun r1 => .ok r1).bind _) = _
  rw [R.rng_ok (by omega), R.bind_ok, R.bind_ok, R.cap_ok (by rw [length_irange]; omega), R.bind_ok, R.bind_ok]
  have e : ((irange 0 many).map fun (x2 : Int) => (0 : Int)) = List.replicate many.toNat 0 := by
    rw [List.map_const', length_irange, Int.sub_zero]
  rw [e]
  refine R.bindV (a := (irange 0 many).map fun j => (w.map (hit j)).sum) ?_ rfl
  refine R.Ok.val ((R.Ok.foldP (fun pre m => (m.length : Int) = many ∧ ∀ j, 0 ≤ j → j < many → getZ m j = (pre.map (hit j)).sum) ⟨by rw [List.length_replicate]; omega, fun j _ _ => getZ_rep _ _⟩ ?_).mono fun m h => eq_by_getZ (by omega) h.1 h.2)
  intro pre q post m e ⟨g1, g2⟩
  obtain ⟨r1, r2, _⟩ := h.rg (show q ∈ w by have e : w = pre ++ q :: post := e; rw [e]; simp)
  rw [getZ_idx r1 (by omega), R.bind_ok, R.setI_ok r1 (by omega), R.bind_ok]
  refine R.Ok.pure ⟨by rw [List.length_set]; exact g1, fun j h0 h1 => ?_⟩
  rw [getZ_put r1 (by omega) h0, List.map_append, List.sum_append, ← g2 j h0 h1]
  simp only [List.map_cons, List.map_nil, List.sum_cons, List.sum_nil]
  unfold hit
  by_cases e1 : q.1 = j
  · subst e1; rw [if_pos rfl, if_pos rfl]; omega
  · rw [if_neg e1, if_neg e1]; omega
theorem perm_sum {α : Type} (f : α → Int) {l m : List α} (h : l.Perm m) : (l.map f).sum = (m.map f).sum := by
  induction h with
  | nil => rfl
  | cons a _ ih => rw [List.map_cons, List.sum_cons, ih, List.map_cons, List.sum_cons]
  | swap a b l => rw [List.map_cons, List.sum_cons, List.map_cons, List.sum_cons, List.map_cons, List.sum_cons, List.map_cons, List.sum_cons]; omega
  | trans _ _ i1 i2 => exact i1.trans i2
def tell (w : List (Int × Int)) (p : Int × Int) : Int := 2 * (if pmem p w then 1 else 0)
theorem told_ok {many : Int} {w : List (Int × Int)} (hm : many ∈ irange 1 9) (h : Win many w) : HOk many ((prs many).map (tell w)) ∧ due many ((prs many).map (tell w)) = ((irange 0 many).map fun j => (w.map (hit j)).sum).map fun x => 2 * x := by
  refine ⟨⟨by rw [List.length_map], fun x m => ?_⟩, ?_⟩
  · obtain ⟨p, _, rfl⟩ := List.mem_map.mp m
    unfold tell
    split <;> decide
  · unfold due
    rw [List.map_map]
    refine List.map_congr_left fun j _ => ?_
    show _ = 2 * (w.map (hit j)).sum
    rw [List.zip_map_right, zip_self, List.map_map, List.map_map]
    rw [← perm_sum _ h.perm, List.map_map]
    have two : 2 * (w.map (hit j)).sum = (w.map fun q => hit j q + hit j q).sum := by rw [sum_add]; omega
    rw [two]
    refine sum_congr fun q m => ?_
    show con j (nrm q, tell w (nrm q)) = hit j q + hit j q
    obtain ⟨_, _, _, _, ne⟩ := h.rg m
    unfold con hit
    by_cases lt : q.1 < q.2
    · have en : nrm q = q := by unfold nrm; rw [if_pos lt]
      have et : tell w q = 2 := by unfold tell; rw [if_pos ((pmem_iff _ _).mpr m)]; rfl
      rw [en, et]
      show (if q.1 = j then (2 : Int) else 0) + (if q.2 = j then 2 - 2 else 0) = _
      split <;> split <;> omega
    · have en : nrm q = (q.2, q.1) := by unfold nrm; rw [if_neg lt]
      have et : tell w (q.2, q.1) = 0 := by unfold tell; rw [if_neg (fun z => h.no hm m ((pmem_iff _ _).mp z))]; rfl
      rw [en, et]
      show (if q.2 = j then (0 : Int) else 0) + (if q.1 = j then 2 - 0 else 0) = _
      split <;> split <;> omega
theorem ali_row2 {n : Nat} {l : List Int} (h : (l.length : Int) ≤ 1000) : aliB (n + 2) (eTup T.int l) (eTup T.int l) = true := ali_ints (by unfold LIM; omega)
theorem one_ok {many : Int} {hs : List Int} (hm : many ∈ irange 1 9) (hh : HOk many hs) : R.Ok ((p_Llaw_sum_of many hs).bind fun sum_of26 =>
    (p_halves_points many hs).bind fun halves_points27 =>
    (p_halves_points many hs).bind fun halves_points28 =>
    (p_Llaw_alike ((ePair (eTup T.int) (eTup T.int)) (halves_points27, halves_points28)) ((ePair (eTup T.int) (eTup T.int)) (sum_of26, sum_of26))).bind fun alike29 =>
    (if (!alike29) then .ok true else (p_own_games many).bind fun own_games30 =>
    (if (!(decide (sum_of26.sum = ((2 * own_games30) : Int)))) then .ok true else (p_is_halves_list sum_of26).bind fun is_halves_list31 => .ok (!(decide (is_halves_list31 = true)))).bind fun b32 => .ok b32).bind fun b33 => if b33 then .ok (.rt false) else (R.cap hs).bind fun c35 =>
    ((R.ok ((hs.map fun (each34 : Int) =>
    (2 - each34))) : R (List Int))).bind fun back36 =>
    (p_halves_points many back36).bind fun halves_points37 =>
    (R.cap sum_of26).bind fun c39 =>
    (p_Llaw_alike ((eTup T.int) halves_points37) ((eTup T.int) (sum_of26.map fun (each38 : Int) =>
    ((2 * (many - 1)) - each38)))).bind fun alike40 => if (!alike40) then .ok (.rt false) else .ok (.nx ()) : R (Lp Bool Unit)) fun o => ∃ s', o = .nx s' ∧ True := by
  have hb := mem_irange.mp hm
  obtain ⟨o1, o2, _⟩ := own_len hm
  have hl := due_len (many := many) (hs := hs) (by omega)
  have hlen := hh.len
  have og : p_own_games many = .ok (many * (many - 1) / 2) := by
    unfold p_own_games p_check_number p_is_between p_is_whole
    rw [decide_eq_true (show (0 : Int) ≤ many by omega), decide_eq_true (show many ≤ 99 by omega)]
    show ((R.ok ()).bind _) = _
    rw [R.bind_ok, own_by_ok (by omega)]; rfl
  rw [sum_of_ok hm, R.bind_ok, halves_points_ok hm hh, R.bind_ok, R.bind_ok, show p_Llaw_alike _ _ = .ok true from R.ali_ok (ali_pair (n := 13) (ali_row2 (n := 11) (by show ((due many hs).length : Int) ≤ 1000; omega)) (ali_row2 (n := 11) (by show ((due many hs).length : Int) ≤ 1000; omega))), R.bind_ok]
  refine R.Ok.bindV (a := false) ?_ ?_
  · rw [if_neg (by decide), og, R.bind_ok, decide_eq_true (due_sum hm hh), if_neg (by decide), halves_list_ok hm hh]; rfl
  refine R.Ok.ite (fun z => nomatch z) fun _ => ?_
  rw [R.cap_ok (by omega), R.bind_ok, R.bind_ok, halves_points_ok hm hh.back, R.bind_ok, R.cap_ok (by omega), R.bind_ok, back_ok hm hh, show p_Llaw_alike _ _ = .ok true from R.ali_ok (ali_row2 (n := 12) (by rw [List.length_map]; omega)), R.bind_ok]
  exact R.Ok.ite (fun z => nomatch z) fun _ => R.Ok.pure ⟨_, rfl, trivial⟩
theorem law_ok (script : List Int) (h : script.length ≤ 63) : p_law script = .ok true := by
  unfold p_law
  rw [R.rng_ok (by split <;> split <;> omega), R.bind_ok]
  refine R.Ok.val (R.Ok.then (I := fun _ => True) (R.Ok.foldF (fun _ => True) trivial fun turn hl _ _ => ?_) fun _ _ => ?_)
  · refine R.Ok.bind (pool_ok (mem_irange.mp hl).1) fun p hp => ?_
    refine R.Ok.bind (take_ok hp (by decide) (by decide)) fun t ht => ?_
    refine R.Ok.bindV rfl ?_
    have hm : 1 + t.1 ∈ irange 1 9 := mem_irange.mpr (by omega)
    have hb := mem_irange.mp hm
    obtain ⟨o1, o2, _⟩ := own_len hm
    generalize 1 + t.1 = many at hm hb o1 o2 ⊢
    rw [law_pairs_ok hm, R.bind_ok]
    refine R.Ok.bind (R.Ok.eachS Pool (Q := fun (x : Int) => 0 ≤ x ∧ x ≤ 2) (n := 1) ht.2 fun k _ m hm' => ?_) fun a ha => ?_
    · exact R.Ok.bind (take_ok hm' (by decide) (by decide)) fun d hd => R.Ok.pure ⟨hd.2, rfl, fun y m => by rw [List.mem_singleton.mp m]; omega⟩
    rw [R.cap_ok (by rw [ha.2.1]; omega), R.bind_ok]
    refine R.Ok.bind (R.Ok.eachS Pool (Q := fun (x : Int) => 0 ≤ x ∧ x ≤ 2) (n := 1) ha.1 fun k _ m hm' => ?_) fun b hb' => ?_
    · exact R.Ok.bind (take_ok hm' (by decide) (by decide)) fun d hd => R.Ok.pure ⟨hd.2, rfl, fun y m => by rw [List.mem_singleton.mp m]; omega⟩
    rw [R.cap_ok (by rw [hb'.2.1]; omega), R.bind_ok]
    refine R.Ok.bind (take_ok hb'.1 (by decide) (by decide)) fun c hc => ?_
    rw [repT_ok (by omega) (by omega), R.bind_ok]
    refine R.Ok.then (R.Ok.foldF (fun _ => True) trivial fun hs mem _ _ => ?_) fun _ _ => ?_
    · refine one_ok hm ?_
      simp only [List.mem_cons, List.not_mem_nil, or_false] at mem
      rcases mem with rfl | rfl | rfl
      · exact ⟨by rw [ha.2.1]; omega, ha.2.2⟩
      · exact ⟨by rw [hb'.2.1]; omega, hb'.2.2⟩
      · exact ⟨by rw [List.length_replicate]; omega, fun x m => by rw [List.eq_of_mem_replicate m]; omega⟩
    refine R.Ok.bind (results_ok hc.2 hm) fun r hr => ?_
    obtain ⟨⟨rm, rw_⟩, _⟩ := hr
    have er : r.1 = (many, r.1.2) := by rw [← rm]
    obtain ⟨t1, t2⟩ := told_ok hm rw_
    rw [R.cap_ok (by omega), R.bind_ok, R.bind_ok]
    rw [show p_halves_points many ((prs many).map fun (pair45 : Int × Int) => (2 * (if (pmem pair45 (r.1.2 : List (Int × Int))) then 1 else 0))) = .ok (due many ((prs many).map (tell r.1.2))) from halves_points_ok hm t1, R.bind_ok, er, points_ok hm rw_, R.bind_ok, R.cap_ok (by rw [List.length_map, length_irange]; omega), R.bind_ok, t2]
    rw [show p_Llaw_alike _ _ = .ok true from R.ali_ok (ali_row2 (n := 12) (by rw [List.length_map, List.length_map, length_irange]; omega)), R.bind_ok]
    obtain ⟨h1, h2⟩ := ones_ok hm
    refine R.Ok.bindV (a := false) ?_ (R.Ok.ite (fun z => nomatch z) fun _ => R.Ok.pure ⟨_, rfl, trivial⟩)
    rw [if_neg (by decide), repT_ok (by omega) (by omega), R.bind_ok, show (((prs many).length : Int)).toNat = (prs many).length by omega, halves_points_ok hm h1, R.bind_ok, repT_ok (by omega) (by omega), R.bind_ok, h2, show p_Llaw_alike _ _ = .ok true from R.ali_ok (ali_row2 (n := 12) (by rw [List.length_replicate]; omega))]
    rfl
  · rw [R.valK (b := [0]) (r := p_halves_points 1 []) (by decide +kernel), R.bind_ok]
    rw [show p_Llaw_alike ((eTup T.int) [0]) ((eP1 T.int) 0) = .ok true from R.ali_ok (ali_row2 (n := 12) (l := [0]) (by decide))]
    exact R.Ok.pure rfl
theorem law_true : ∀ ns : List Int, ns.length ≤ 63 → ∃ fr, Ev.run prog 1000 (59 + 1) f_law [.scr (ns.map Ev.T.int)] = .ok (.bl true) fr none := fun ns h => by
  obtain ⟨fr, e, _⟩ := F_law 45 ns true (law_ok ns h)
  exact ⟨fr, e⟩
end G51

set_option Elab.async false
set_option linter.all false
set_option maxRecDepth 100000
open PySem PySem.W PyProof.Rows
set_option maxHeartbeats 0 in
theorem PySem.Challenge.cw_eachagainst_k51_whole_points_by_halves_holds : PySem.Challenge.rw_eachagainst_k51_whole_points_by_halves.Holds := by
  w_on; o_law; k_head; (case hw => w_witness2)
  k_fill
  refine L2.walk_of (l := PySem.Challenge.rw_eachagainst_k51_whole_points_by_halves) (n := 63) (k := 60) (x := "script") (CX := fun _ => L2.CX0) (sp := fun w => Ev.spLaw _) rfl (by decide) rfl ⟨rfl, by decide, by decide⟩ (fun w h Y => PySem.W.kIn_of Y) ?F (fun _ _ a ns hl _ hS => ⟨a, ns, rfl, hS, hl, fun _ => rfl⟩) (fun _ _ _ _ _ h => h)
  case F =>
    intro w mg fa h KX G hmg
    refine' G51.all_mk KX G hmg (Ev.DefIn.mk' ?eva0 ?evl0 ?evc0 ?evk0) (Ev.DefIn.mk' ?eva1 ?evl1 ?evc1 ?evk1) (Ev.DefIn.mk' ?eva2 ?evl2 ?evc2 ?evk2) (Ev.DefIn.mk' ?eva3 ?evl3 ?evc3 ?evk3) (Ev.DefIn.mk' ?eva4 ?evl4 ?evc4 ?evk4) (Ev.DefIn.mk' ?eva5 ?evl5 ?evc5 ?evk5) (Ev.DefIn.mk' ?eva6 ?evl6 ?evc6 ?evk6) (Ev.DefIn.mk' ?eva7 ?evl7 ?evc7 ?evk7) (Ev.DefIn.mk' ?eva8 ?evl8 ?evc8 ?evk8) (Ev.DefIn.mk' ?eva9 ?evl9 ?evc9 ?evk9) (Ev.DefIn.mk' ?eva10 ?evl10 ?evc10 ?evk10) (Ev.DefIn.mk' ?eva11 ?evl11 ?evc11 ?evk11) (Ev.DefIn.mk' ?eva12 ?evl12 ?evc12 ?evk12) (Ev.DefIn.mk' ?eva13 ?evl13 ?evc13 ?evk13) (Ev.DefIn.mk' ?eva14 ?evl14 ?evc14 ?evk14) (Ev.DefIn.mk' ?eva15 ?evl15 ?evc15 ?evk15) (Ev.DefIn.mk' ?eva16 ?evl16 ?evc16 ?evk16) (Ev.DefIn.mk' ?eva17 ?evl17 ?evc17 ?evk17) (Ev.DefIn.mk' ?eva18 ?evl18 ?evc18 ?evk18) (Ev.DefIn.mk' ?eva19 ?evl19 ?evc19 ?evk19) (Ev.DefIn.mk' ?eva20 ?evl20 ?evc20 ?evk20) (Ev.DefIn.mk' ?eva21 ?evl21 ?evc21 ?evk21) (Ev.DefIn.mk' ?eva22 ?evl22 ?evc22 ?evk22) (Ev.DefIn.mk' ?eva23 ?evl23 ?evc23 ?evk23) (Ev.DefIn.mk' ?eva24 ?evl24 ?evc24 ?evk24) (Ev.DefIn.mk' ?eva25 ?evl25 ?evc25 ?evk25) (Ev.DefIn.mk' ?eva26 ?evl26 ?evc26 ?evk26) (Ev.DefIn.mk' ?eva27 ?evl27 ?evc27 ?evk27) (Ev.DefIn.mk' ?eva28 ?evl28 ?evc28 ?evk28) (Ev.DefIn.mk' ?eva29 ?evl29 ?evc29 ?evk29) (Ev.DefIn.mk' ?eva30 ?evl30 ?evc30 ?evk30) (Ev.DefIn.mk' ?eva31 ?evl31 ?evc31 ?evk31) (Ev.DefIn.mk' ?eva32 ?evl32 ?evc32 ?evk32) (Ev.DefIn.mk' ?eva33 ?evl33 ?evc33 ?evk33) (Ev.DefIn.mk' ?eva34 ?evl34 ?evc34 ?evk34) (Ev.DefIn.mk' ?eva35 ?evl35 ?evc35 ?evk35) ?evg0 ?evg1 ?evg2 ?evg3 ?evz0 ?evz1 ?evz2 ?evz3 ?evz4 ?evz5 ?evz6 ?evz7 ?evz8 ?evz9 ?evz10 ?evz11 ?evz12 ?evz13 ?evz14 ?evz15 ?evz16 ?evz17 G51.law_true
    (case eva0 => k_is); (case evl0 => k_is); (case evc0 => k_is); (case evk0 => k_is)
    (case eva1 => k_is); (case evl1 => k_is); (case evc1 => k_is); (case evk1 => k_is)
    (case eva2 => k_is); (case evl2 => k_is); (case evc2 => k_is); (case evk2 => k_is)
    (case eva3 => k_is); (case evl3 => k_is); (case evc3 => k_is); (case evk3 => k_is)
    (case eva4 => k_is); (case evl4 => k_is); (case evc4 => k_is); (case evk4 => k_is)
    (case eva5 => k_is); (case evl5 => k_is); (case evc5 => k_is); (case evk5 => k_is)
    (case eva6 => k_is); (case evl6 => k_is); (case evc6 => k_is); (case evk6 => k_is)
    (case eva7 => k_is); (case evl7 => k_is); (case evc7 => k_is); (case evk7 => k_is)
    (case eva8 => k_is); (case evl8 => k_is); (case evc8 => k_is); (case evk8 => k_is)
    (case eva9 => k_is); (case evl9 => k_is); (case evc9 => k_is); (case evk9 => k_is)
    (case eva10 => k_is); (case evl10 => k_is); (case evc10 => k_is); (case evk10 => k_is)
    (case eva11 => k_is); (case evl11 => k_is); (case evc11 => k_is); (case evk11 => k_is)
    (case eva12 => k_is); (case evl12 => k_is); (case evc12 => k_is); (case evk12 => k_is)
    (case eva13 => k_is); (case evl13 => k_is); (case evc13 => k_is); (case evk13 => k_is)
    (case eva14 => k_is); (case evl14 => k_is); (case evc14 => k_is); (case evk14 => k_is)
    (case eva15 => k_is); (case evl15 => k_is); (case evc15 => k_is); (case evk15 => k_is)
    (case eva16 => k_is); (case evl16 => k_is); (case evc16 => k_is); (case evk16 => k_is)
    (case eva17 => k_is); (case evl17 => k_is); (case evc17 => k_is); (case evk17 => k_is)
    (case eva18 => k_is); (case evl18 => k_is); (case evc18 => k_is); (case evk18 => k_is)
    (case eva19 => k_is); (case evl19 => k_is); (case evc19 => k_is); (case evk19 => k_is)
    (case eva20 => k_is); (case evl20 => k_is); (case evc20 => k_is); (case evk20 => k_is)
    (case eva21 => k_is); (case evl21 => k_is); (case evc21 => k_is); (case evk21 => k_is)
    (case eva22 => k_is); (case evl22 => k_is); (case evc22 => k_is); (case evk22 => k_is)
    (case eva23 => k_is); (case evl23 => k_is); (case evc23 => k_is); (case evk23 => k_is)
    (case eva24 => k_is); (case evl24 => k_is); (case evc24 => k_is); (case evk24 => k_is)
    (case eva25 => k_is); (case evl25 => k_is); (case evc25 => k_is); (case evk25 => k_is)
    (case eva26 => k_is); (case evl26 => k_is); (case evc26 => k_is); (case evk26 => k_is)
    (case eva27 => k_is); (case evl27 => k_is); (case evc27 => k_is); (case evk27 => k_is)
    (case eva28 => k_is); (case evl28 => k_is); (case evc28 => k_is); (case evk28 => k_is)
    (case eva29 => k_is); (case evl29 => k_is); (case evc29 => k_is); (case evk29 => k_is)
    (case eva30 => k_is); (case evl30 => k_is); (case evc30 => k_is); (case evk30 => k_is)
    (case eva31 => k_is); (case evl31 => k_is); (case evc31 => k_is); (case evk31 => k_is)
    (case eva32 => k_is); (case evl32 => k_is); (case evc32 => k_is); (case evk32 => k_is)
    (case eva33 => k_is); (case evl33 => k_is); (case evc33 => k_is); (case evk33 => k_is)
    (case eva34 => k_is); (case evl34 => k_is); (case evc34 => k_is); (case evk34 => k_is)
    (case eva35 => k_is); (case evl35 => k_is); (case evc35 => k_is); (case evk35 => k_is)
    (case evg0 => k_is)
    (case evg1 => k_is)
    (case evg2 => k_is)
    (case evg3 => k_is)
    (case evz0 => k_is)
    (case evz1 => k_is)
    (case evz2 => k_is)
    (case evz3 => k_is)
    (case evz4 => k_is)
    (case evz5 => k_is)
    (case evz6 => k_is)
    (case evz7 => k_is)
    (case evz8 => k_is)
    (case evz9 => k_is)
    (case evz10 => k_is)
    (case evz11 => k_is)
    (case evz12 => k_is)
    (case evz13 => k_is)
    (case evz14 => k_is)
    (case evz15 => k_is)
    (case evz16 => k_is)
    (case evz17 => k_is)

