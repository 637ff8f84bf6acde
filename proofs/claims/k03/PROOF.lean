import PyProof.Rows.All
import Wide.All
import OpenK.AllK
import Wide.FinOn
import HandS.TupMul
import HandS.TupAny
import HandS.ForMost
import HandS.Exc
import HandS.ExcInit
import HandS.Wide
import HandS.IsInst
import HandS.DictEq
import HandS.Flow
import HandS.Text
import KE.KRevSl
import HandS.RaiseMore
import HandS.SortInts
import HandS.More
import HandS.ExcOwn
import HandS.Property
import OpenK.KMore
import OpenK.KCls
import HandS.ExcField
import HandS.ExcValue
import HandS.ClsMeth
import HandS.Style
import HandS.Iter
import HandS.Zip
import KE.GoesEnum
import HandS.Small
import HandS.ExcIs
import HandS.Comp
import HandS.Dict
import HandS.SlotsOwn
import HandS.Head0
import HandS.Head1
import HandS.Head2
import HandS.HeadEnd
import HandS.HeadHook2
import HandS.HeadWalk
import HandS.Defaults
import KE.KStateDown
import HandS.WordsExc
import HandS.TryOnly
import PyProof.ReprBulk
import HandS.DictComp
import KE.KOpsOwn
import HandS.Conv
import PyProof.StrLawsChain
import PySem.Challenge.RW_wayturns_k03_tables_held_against_each_ot
set_option Elab.async false
set_option linter.all false
set_option maxRecDepth 100000
set_option autoImplicit false
set_option maxHeartbeats 4000000
/-! A tuple times 0 or 1. -/
namespace WT
open PySem PySem.Spec PyProof.Rows L2
theorem tuple_mul1 (l : Addr) (items : Array Value) (n : Nat) (dd : Option Addr) (sl : Array (Option Value)) (x : Int) (u : Tok) (c0 : (decide (x < -(2 ^ 63)) || decide (x ≥ 2 ^ 63)) = false) (c1 : (items.isEmpty || x == 1) = true) :
    Meets (Builtin.«tuple.__mul__» ⟨[.ref l, .int x u], []⟩) (fun _ R s => s.heap.get? l = some { cls := .type "tuple", dict := dd, data := .seq items n, slots := sl } ∧ R (.ok (.ret (.ref l))) s) :=
  .of_wp fun prog w A R s h => by
    obtain ⟨hp, g, d, tk, os⟩ := s
    obtain ⟨hl, h⟩ := h
    have f1 := AutoSeq1.idx_int
    wp_walk using wpAny_loadPart' hl
    repeat (first
      | (refine wpAny_ite_false (decide_eq_false (by rw [c0]; exact Bool.false_ne_true)) ?_; wp_walk using wpAny_loadPart' hl)
      | (refine wpAny_ite_true (decide_eq_true (by rw [c1])) ?_; wp_walk using wpAny_loadPart' hl))
    exact ⟨_, rfl, h⟩
theorem tuple_mul0 (l : Addr) (items : Array Value) (n : Nat) (dd : Option Addr) (sl : Array (Option Value)) (x : Int) (u : Tok) (c0 : (decide (x < -(2 ^ 63)) || decide (x ≥ 2 ^ 63)) = false) (c1 : (items.isEmpty || x == 1) = false) (c2 : (decide (x ≤ 0) || items.isEmpty) = true) :
    Meets (Builtin.«tuple.__mul__» ⟨[.ref l, .int x u], []⟩) (fun _ R s => s.heap.get? l = some { cls := .type "tuple", dict := dd, data := .seq items n, slots := sl } ∧ R (.ok (.ret (Value.ref s.heap.objs.size))) { s with heap := s.heap.push { cls := Value.type "tuple", data := Data.seq #[] }, toks := s.toks }) :=
  .of_wp fun prog w A R s h => by
    obtain ⟨hp, g, d, tk, os⟩ := s
    obtain ⟨hl, h⟩ := h
    have f1 := AutoSeq1.idx_int
    wp_walk using wpAny_loadPart' hl
    repeat (first
      | (refine wpAny_ite_false (decide_eq_false (by rw [c0]; exact Bool.false_ne_true)) ?_; wp_walk using wpAny_loadPart' hl)
      | (refine wpAny_ite_false (decide_eq_false (by rw [c1]; exact Bool.false_ne_true)) ?_; wp_walk using wpAny_loadPart' hl)
      | (refine wpAny_ite_true (decide_eq_true (by rw [c2])) ?_; wp_walk using wpAny_loadPart' hl))
    exact ⟨_, rfl, h⟩
section
variable {X : Cx}
def rRep01 (K : PySem.W.Frag) : R2 := fun x y H Q => ∃ l k xs, x = .ref l ∧ y = .int k ∧ SqT K H l xs ∧ xs ≠ [] ∧ ((k = 1 ∧ Q (.ref l) H) ∨ (k = 0 ∧ ∀ p, H p = none → Q (.ref p) (upd H p (.tup []))))
theorem op_rep01 : OpR X (binaryOp .Mult) (rRep01 X.K) := by
  intro pins s σ H x y v u Q I rx ry h
  obtain ⟨l, k, xs, rfl, rfl, hT, hne, hk⟩ := h
  cases rx
  obtain ⟨t, rfl⟩ := ry
  obtain ⟨its, r, ⟨⟨cls, dd, data, sl⟩, ho, hc, n, hd⟩, hs⟩ := I.tuple hT
  simp only at hc hd
  subst hc hd
  have hle : its.length = xs.length := r.length.symm
  have hi : its.toArray.isEmpty = false := by
    cases its with
    | nil => exact absurd (List.eq_nil_of_length_eq_zero hle.symm) hne
    | cons a b => rfl
  rcases hk with ⟨rfl, q⟩ | ⟨rfl, q⟩
  · refine wpAny_binaryOp_repeat_ref (T := "tuple") (U := "int") (by decide) ⟨_, ho, rfl⟩ (fun s' => typeIs_int s' 1 t) noFill_tuple_mul F.fills_int_mul F.slot_int_rmul repeat_tuple F.slot_int_index.lookup
      (call_meets F.slot_int_rmul (typeIs_int s 1 t) F.entry_int_rmul (F.args_int_rmul_2 _ _) (int_rmul_tuple 1 t l its.toArray n dd sl)
        ⟨ho, rfl, ⟨_, ho, rfl⟩, call_meets F.slot_tuple_mul ⟨_, ho, rfl⟩ F.entry_tuple_mul (F.args_tuple_mul_2 _ _) (tuple_mul1 l its.toArray n dd sl 1 t (by decide) (by rw [hi]; rfl)) ⟨ho, ?_⟩⟩)
    exact ⟨.ref l, H, I, rfl, q⟩
  · refine wpAny_binaryOp_repeat_ref (T := "tuple") (U := "int") (by decide) ⟨_, ho, rfl⟩ (fun s' => typeIs_int s' 0 t) noFill_tuple_mul F.fills_int_mul F.slot_int_rmul repeat_tuple F.slot_int_index.lookup
      (call_meets F.slot_int_rmul (typeIs_int s 0 t) F.entry_int_rmul (F.args_int_rmul_2 _ _) (int_rmul_tuple 0 t l its.toArray n dd sl)
        ⟨ho, rfl, ⟨_, ho, rfl⟩, call_meets F.slot_tuple_mul ⟨_, ho, rfl⟩ F.entry_tuple_mul (F.args_tuple_mul_2 _ _) (tuple_mul0 l its.toArray n dd sl 0 t (by decide) (by rw [hi]; rfl) (by rw [hi]; rfl)) ⟨ho, ?_⟩⟩)
    refine ⟨.ref s.heap.objs.size, _, I.laid (t' := s.toks) (o := .tup []) (fun b ob q => Heap.get?_push_of_some _ q) (Nat.le_refl _) ?_, rfl, q _ (I.hok.fresh (Nat.le_refl _))⟩
    exact ⟨Nat.zero_le _, [], .nil, IsTup.new _ _⟩
end
end WT
set_option maxRecDepth 100000
/-! The core language: values as trees, cells, the interpreter. -/
namespace WT
open PySem (Str CmpOp Operator)
noncomputable section

/-- values: trees; only what is really mutated is a cell (ref) -/
inductive PV where
  | non | bl (b : Bool) | int (i : Int) | str (x : Str)
  | tup (xs : List PV) | lst (xs : List PV) | dic (kvs : List (PV × PV))
  | ins (c : Nat) (fs : List (Nat × PV)) | exc (c : Nat) (fs : List (Nat × PV))
  | ref (i : Nat) | cls (c : Nat) | fn (f : Nat) | ty (n : String)
  /-- no value: what is known of a locked dict -/
  | lk (d : Nat) (o : PySem.Obj) (kws : List (L2.Key × L2.V))
  deriving Inhabited

inductive Cell where
  | lst (xs : List PV) | dic (kvs : List (PV × PV)) | ins (c : Nat) (fs : List (Nat × PV)) | dead
  deriving Inhabited
abbrev Mem := List Cell
abbrev Env := List (Option PV)

mutual
def PV.beq : PV → PV → Bool
  | .non, b => (match b with
    | .non => true
    | _ => false)
  | .bl a, b => (match b with
    | .bl b => a == b
    | _ => false)
  | .int a, b => (match b with
    | .int b => a == b
    | _ => false)
  | .str a, b => (match b with
    | .str b => a == b
    | _ => false)
  | .tup a, b => (match b with
    | .tup b => PV.beqs a b
    | _ => false)
  | .lst a, b => (match b with
    | .lst b => PV.beqs a b
    | _ => false)
  | .dic a, b => (match b with
    | .dic b => PV.beqd a b
    | _ => false)
  | .ins c a, b => (match b with
    | .ins d b => c == d && PV.beqf a b
    | _ => false)
  | .exc c a, b => (match b with
    | .exc d b => c == d && PV.beqf a b
    | _ => false)
  | .ref a, b => (match b with
    | .ref b => a == b
    | _ => false)
  | .cls a, b => (match b with
    | .cls b => a == b
    | _ => false)
  | .fn a, b => (match b with
    | .fn b => a == b
    | _ => false)
  | .ty a, b => (match b with
    | .ty b => a == b
    | _ => false)
  | .lk d o k, b => (match b with
    | .lk d' o' k' => @decide (d = d' ∧ o = o' ∧ k = k') (Classical.propDecidable _)
    | _ => false)
termination_by structural a => a
def PV.beqs : List PV → List PV → Bool
  | [], b => (match b with
    | [] => true
    | _ => false)
  | a :: r, b => (match b with
    | b :: s => PV.beq a b && PV.beqs r s
    | _ => false)
termination_by structural a => a
def PV.beqd : List (PV × PV) → List (PV × PV) → Bool
  | [], b => (match b with
    | [] => true
    | _ => false)
  | (a, a') :: r, b => (match b with
    | (b, b') :: s => PV.beq a b && (PV.beq a' b' && PV.beqd r s)
    | _ => false)
termination_by structural a => a
def PV.beqf : List (Nat × PV) → List (Nat × PV) → Bool
  | [], b => (match b with
    | [] => true
    | _ => false)
  | (a, a') :: r, b => (match b with
    | (b, b') :: s => a == b && (PV.beq a' b' && PV.beqf r s)
    | _ => false)
termination_by structural a => a
end
def Cell.beq : Cell → Cell → Bool
  | .lst a, .lst b => PV.beqs a b
  | .dic a, .dic b => PV.beqd a b
  | .ins c a, .ins d b => c == d && PV.beqf a b
  | .dead, .dead => true
  | _, _ => false

/-! ### references -/
mutual
/-- all references are below n -/
def PV.lt (n : Nat) : PV → Bool
  | .tup xs => PV.lts n xs
  | .lst xs => PV.lts n xs
  | .dic kvs => PV.ltd n kvs
  | .ins _ fs => PV.ltf n fs
  | .exc _ fs => PV.ltf n fs
  | .ref i => decide (i < n)
  | _ => true
def PV.lts (n : Nat) : List PV → Bool
  | [] => true
  | x :: r => PV.lt n x && PV.lts n r
def PV.ltd (n : Nat) : List (PV × PV) → Bool
  | [] => true
  | (k, v) :: r => PV.lt n k && (PV.lt n v && PV.ltd n r)
def PV.ltf (n : Nat) : List (Nat × PV) → Bool
  | [] => true
  | (_, v) :: r => PV.lt n v && PV.ltf n r
end
def Cell.lt (n : Nat) : Cell → Bool
  | .lst xs => PV.lts n xs
  | .dic kvs => PV.ltd n kvs
  | .ins _ fs => PV.ltf n fs
  | .dead => true
/-- what stood at the entry stands, or holds nothing young: the callee's own cells may go -/
def dropOk (n : Nat) : Mem → Mem → Bool
  | [], _ => true
  | c :: r, d :: s => (Cell.beq c d || d.lt n) && dropOk n r s
  | _ :: _, [] => false

inductive Res (α : Type) where
  | ok (a : α) (M : Mem) | err (e : PV) (M : Mem) | stuck
def Res.bind {α β : Type} (r : Res α) (k : α → Mem → Res β) : Res β := match r with
  | .ok a M => k a M
  | .err e M => .err e M
  | .stuck => .stuck
inductive Out where
  | nx (ε : Env) (M : Mem) | rt (v : PV) (M : Mem) | bk (ε : Env) (M : Mem) | ct (ε : Env) (M : Mem) | er (e : PV) (ε : Env) (M : Mem) | stuck
def Out.seq (o : Out) (k : Env → Mem → Out) : Out := match o with
  | .nx ε M => k ε M
  | o => o
/-- an expression's outcome, in a statement -/
def Res.out {α : Type} (r : Res α) (ε : Env) (k : α → Mem → Out) : Out := match r with
  | .ok a M => k a M
  | .err e M => .er e ε M
  | .stuck => .stuck

/-! ### reading -/
def rd (M : Mem) (v : PV) : PV := match v with
  | .ref i => match M[i]? with
    | some (.lst xs) => .lst xs
    | some (.dic kvs) => .dic kvs
    | some (.ins c fs) => .ins c fs
    | _ => .ref i
  | v => v
def sline : Nat := 16777216

/-! ### the core's syntax -/
/-- built-in functions -/
inductive BF where
  | len | repr | strOf | intOf | listOf | tupleOf | maxOf | minOf | sumOf | allOf | anyOf | sortedOf | isinst | boolOf | absOf | dictNew | setNew
  deriving DecidableEq
/-- methods of built-in types -/
inductive BM where
  | append | extend | pop | popAt | clear | reverse | index | split | join | get | getOr | count | upper | values | items | keys | remove
  deriving DecidableEq
inductive CT where
  | nm (i : Nat) | tup (ts : List CT)

mutual
inductive CE where
  | lit (v : PV)
  | loc (i : Nat)
  | glo (v : PV)
  | tup (es : List CE)
  | lst (m : Bool) (es : List CE)
  | dic (m : Bool) (ks vs : List CE)
  | bin (op : Operator) (m : Bool) (a b : CE)
  | neg (a : CE)
  | cmp (op : CmpOp) (a b : CE)
  | chn (op1 op2 : CmpOp) (a b c : CE)
  | and (a b : CE) | or (a b : CE) | not (a : CE)
  | ife (c a b : CE)
  | fld (e : CE) (k : Nat)
  | idx (a i : CE)
  | slc (m : Bool) (a lo hi : CE)
  | rev (m : Bool) (a : CE)
  | call (f : Nat) (as : List CE)
  | bfn (b : BF) (m : Bool) (as : List CE)
  | met (o : CE) (k : Nat) (as : List CE)
  | bme (o : CE) (b : BM) (m : Bool) (as : List CE)
  | isi (e : CE) (ts : List PV) (tp : Bool)
  | lc (m : Bool) (own : List Nat) (elt : CE) (t : CT) (it : CI) (ifs : List CE)
  | frz (e : CE)
  | no
  | lenO (k : Nat) (o : CE)
  | opO (k : Nat) (a b : CE)
  | opI (k : Nat) (a b : CE)
  | opL (k : Nat) (a b : CE)
  | dcm (m : Bool) (own : List Nat) (k v : CE) (t : CT) (it : CI)
  | dcm2 (m : Bool) (own own1 : List Nat) (k v : CE) (t : CT) (it : CI) (t1 : CT) (it1 : CI)
  | lrng (m : Bool) (a : CE)
inductive CI where
  | of (e : CE) | rng1 (a : CE) | rng2 (a b : CE) | enm (a : CE) | enm2 (a : CE) | zip (a b : CE) | dvals (e : CE) | ditems (e : CE)
end
inductive CS where
  | expr (e : CE) | asg (t : CT) (e : CE) | setf (o : CE) (k : Nat) (e : CE) | seti (o i e : CE) | aug (i : Nat) (op : Operator) (e : CE)
  | ret (e : CE) | retN | pass | brk | cnt
  | ife (c : CE) (a b : List CS)
  | for_ (t : CT) (it : CI) (body : List CS)
  | whl (c : CE) (body : List CS)
  | rais (c : Nat) (as : List CE)
  | tryx (body : List CS) (c : Nat) (i : Option Nat) (suite : List CS)
  | no
  /-- the slot i is frozen ahead of s -/
  | gh (i : Nat) (s : CS)

/-- a def: parameters, slots, body -/
structure FDef where
  np : Nat
  ns : Nat
  body : List CS
/-- what is called by a number: a def, a class of instances (its __init__; frozen when made) -/
inductive Fn where
  | fn (d : FDef)
  | mk (c : Nat) (init : Nat) (frozen : Bool)
  /-- never called here -/
  | no
/-- the program's tables -/
structure Glo where
  fns : List Fn
  /-- a class's method: class, name, def -/
  meths : List ((Nat × Nat) × Nat)
  props : List ((Nat × Nat) × Nat)
  /-- exception classes: the fields that __init__ stores (none: a message) -/
  excs : List (Nat × Option (List Nat))
  /-- a class and the own classes below which it stands (itself among them) -/
  subs : List (Nat × List Nat)
  /-- own __eq__: class, def -/
  eqs : List (Nat × Nat)
  /-- attributes of instances: class, name -/
  flds : List (Nat × Nat)
  /-- .. of exceptions -/
  xflds : List (Nat × Nat)
structure Ctx where
  call : Nat → List PV → Mem → Res PV
  w : Nat
  G : Glo

/-! ### values -/
/-! a value as the library's data; r: what a reference is -/
mutual
def deepW (r : Nat → Option PySem.PyData) : PV → Option PySem.PyData
  | .non => some .none
  | .bl b => some (.bool b)
  | .int i => some (.int i)
  | .str x => some (.str x)
  | .tup xs => (deepWs r xs).map .tuple
  | .lst xs => (deepWs r xs).map .list
  | .dic kvs => (deepWd r kvs).map .dict
  | .ref i => r i
  | _ => none
def deepWs (r : Nat → Option PySem.PyData) : List PV → Option (List PySem.PyData)
  | [] => some []
  | x :: xs => (deepW r x).bind fun d => (deepWs r xs).map fun ds => d :: ds
def deepWd (r : Nat → Option PySem.PyData) : List (PV × PV) → Option (List (PySem.PyData × PySem.PyData))
  | [] => some []
  | (k, x) :: xs => (deepW r k).bind fun c => (deepW r x).bind fun d => (deepWd r xs).map fun ds => (c, d) :: ds
end
def cellD (r : Nat → Option PySem.PyData) : Option Cell → Option PySem.PyData
  | some (.lst xs) => (deepWs r xs).map .list
  | some (.dic kvs) => (deepWd r kvs).map .dict
  | _ => none
def deep0 : PV → Option PySem.PyData := deepW fun _ => none
def deep1 (M : Mem) : PV → Option PySem.PyData := deepW fun i => cellD (fun _ => none) M[i]?
def deep (M : Mem) : PV → Option PySem.PyData := deepW fun i => cellD (fun j => cellD (fun _ => none) M[j]?) M[i]?
def truthy (M : Mem) (v : PV) : Option Bool := match rd M v with
  | .non => some false
  | .bl b => some b
  | .int i => some (i != 0)
  | .str x => some ((x.length : Int) != 0)
  | .tup xs => some (!xs.isEmpty)
  | .lst xs => some (!xs.isEmpty)
  | .dic kvs => some (!kvs.isEmpty)
  | _ => none
/-- a list is made: a cell or a tree -/
def mkL (m : Bool) (xs : List PV) (M : Mem) : Res PV := match m with
  | true => .ok (.ref M.length) (M ++ [.lst xs])
  | false => .ok (.lst xs) M
def guard (c : Bool) (r : Res PV) : Res PV := match c with
  | true => r
  | false => .stuck
def ofOpt (M : Mem) (o : Option PV) : Res PV := match o with
  | some v => .ok v M
  | none => .stuck
def bl (b : Bool) (M : Mem) : Res PV := .ok (.bl b) M

/-- what type a value is of -/
inductive VT where
  | bt (n : String) | own (c : Nat) | xc (c : Nat)
def vtOf : PV → Option VT
  | .non => some (.bt "NoneType")
  | .bl _ => some (.bt "bool")
  | .int _ => some (.bt "int")
  | .str _ => some (.bt "str")
  | .lst _ => some (.bt "list")
  | .tup _ => some (.bt "tuple")
  | .dic _ => some (.bt "dict")
  | .ins c _ => some (.own c)
  | .exc c _ => some (.xc c)
  | _ => none
def bkinds : List String := ["NoneType", "bool", "int", "str", "list", "tuple", "dict"]
def tkinds : List String := ["bool", "int", "str", "list", "tuple", "dict"]
def xkinds : List String := ["ValueError", "Exception"]
/-- the class of a number: known, and an exception's or not -/
def clsOk (G : Glo) (x : Bool) (c : Nat) : Option (List Nat) := match (G.excs.lookup c).isSome == x with
  | true => G.subs.lookup c
  | false => none
/-- is a value of the type k of the class t? -/
def isVT (G : Glo) (k : VT) (t : PV) : Option Bool := match k, t with
  | .bt n, .ty m => if bkinds.contains n && tkinds.contains m then some (n == m || (n == "bool" && m == "int")) else none
  | .bt n, .cls c => if bkinds.contains n then (G.subs.lookup c).map fun _ => false else none
  | .own c, .ty m => if tkinds.contains m then (clsOk G false c).map fun _ => false else none
  | .xc c, .ty m => if tkinds.contains m then (clsOk G true c).map fun _ => false else if xkinds.contains m then (clsOk G true c).map fun _ => true else none
  | .own c, .cls d => (clsOk G false c).map fun l => l.contains d
  | .xc c, .cls d => (clsOk G true c).map fun l => l.contains d
  | _, _ => none
def isOf (G : Glo) (M : Mem) (v : PV) (t : PV) : Option Bool := (vtOf (rd M v)).bind fun k => isVT G k t
def isAny (G : Glo) (M : Mem) (v : PV) : List PV → Option Bool
  | [] => some false
  | t :: r => (isOf G M v t).bind fun b => if b then some true else isAny G M v r
/-! ### operators -/
def mulOk (i j : Int) : Bool := decide (i.natAbs.log2 + j.natAbs.log2 < 1000000)
def divOk (j : Int) : Bool := decide (0 < j) && decide (j.natAbs.log2 < 9000)
def powOk (i j : Int) : Bool := decide (0 ≤ j) && decide (((i.natAbs.log2 : Int) + 1) * j ≤ 134217728)
/-- so many times -/
def repP (k : Int) (a : List PV) : List PV := (List.replicate k.toNat a).flatten
def binop (m : Bool) (op : Operator) (x y : PV) (M : Mem) : Res PV := match op, rd M x, rd M y with
  | .Add, .int i, .int j => .ok (.int (i + j)) M
  | .Sub, .int i, .int j => .ok (.int (i - j)) M
  | .Mult, .int i, .int j => guard (mulOk i j) (.ok (.int (i * j)) M)
  | .FloorDiv, .int i, .int j => guard (divOk j) (.ok (.int (i / j)) M)
  | .Mod, .int i, .int j => guard (decide (0 < j)) (.ok (.int (i % j)) M)
  | .Pow, .int i, .int j => guard (powOk i j) (.ok (.int (i ^ j.toNat)) M)
  | .Add, .str a, .str b => guard (decide (a.length + b.length ≤ sline)) (.ok (.str (a ++ b)) M)
  | .Add, .lst a, .lst b => guard (decide (a.length + b.length ≤ sline)) (mkL m (a ++ b) M)
  | .Add, .tup a, .tup b => guard (decide (a.length + b.length ≤ sline)) (.ok (.tup (a ++ b)) M)
  | .Mult, .lst a, .int k => guard (decide (-1000000 ≤ k) && decide (k ≤ 1000000) && decide (a.length * k.toNat ≤ sline)) (mkL m (repP k a) M)
  | .Mult, .tup a, .int k => guard (decide (0 ≤ k) && decide (k ≤ 1000) && decide (a.length ≤ 1000) && !a.isEmpty) (.ok (.tup (repP k a)) M)
  | _, _, _ => .stuck
/-- == of data -/
def eqData (M : Mem) (x y : PV) : Option Bool := match rd M x, rd M y with
  | .non, .non => some true
  | .str a, .str b => some (a == b)
  | .int a, .int b => some (a == b)
  | .bl a, .bl b => some (a == b)
  | .str _, .non | .non, .str _ | .int _, .non | .non, .int _ | .bl _, .non | .non, .bl _ | .str _, .int _ | .int _, .str _ | .str _, .bl _ | .bl _, .str _ => some false
  | _, _ => (deep M x).bind fun d => (deep M y).bind fun e => if PySem.SeqAt.shaped d && PySem.SeqAt.shaped e then some (PySem.PyData.eqv d e) else none
def strIn (c z : Str) : Bool := !(PySem.Builtin.Str.occurrences z c 0 z.length 1).isEmpty
def flatP : PV → Bool
  | .non | .bl _ | .int _ | .str _ => true
  | _ => false
/-- == of flat values -/
def eqF : PV → PV → Bool
  | .non, .non => true
  | .bl a, .bl b => a == b
  | .bl a, .int b => (if a then 1 else 0) == b
  | .int a, .bl b => a == (if b then 1 else 0)
  | .int a, .int b => a == b
  | .str a, .str b => a == b
  | _, _ => false
/-- the same key (ints and texts) -/
def eqK : PV → PV → Bool
  | .int a, .int b => a == b
  | .str a, .str b => a == b
  | _, _ => false
def getK (x : PV) : List (PV × PV) → Option PV
  | [] => none
  | (k, v) :: r => if eqK k x then some v else getK x r
def putKV (x v : PV) (kvs : List (PV × PV)) : List (PV × PV) := match kvs.any fun kv => eqK kv.1 x with
  | true => kvs.map fun kv => match eqK kv.1 x with
    | true => (kv.1, v)
    | false => kv
  | false => kvs ++ [(x, v)]
def isKey : PV → Bool
  | .int _ | .str _ => true
  | _ => false
def inSeq (M : Mem) (x y : PV) (ys : List PV) : Option Bool := match flatP x && ys.all flatP with
  | true => some (ys.any fun z => eqF z x)
  | false => (deep M x).bind fun d => (match deep M y with
    | some (.list ds) => if PySem.SeqAt.shaped d && PySem.SeqAt.shaped (.list ds) then some (ds.any fun z => PySem.PyData.eqv z d) else none
    | some (.tuple ds) => if PySem.SeqAt.shaped d && PySem.SeqAt.shaped (.list ds) then some (ds.any fun z => PySem.PyData.eqv z d) else none
    | _ => none)
def isIn (M : Mem) (x y : PV) : Option Bool := match rd M y with
  | .str z => (match rd M x with
    | .str c => some (strIn c z)
    | _ => none)
  | .lst ys => inSeq M x y ys
  | .tup ys => inSeq M x y ys
  | .dic kvs => if isKey x then some (getK x kvs).isSome else none
  | _ => none
def cps (x : Str) : List Nat := x.cps.toList
/-- the right side's type is known -/
def known (G : Glo) (M : Mem) (y : PV) : Bool := (isOf G M y (.ty "int")).isSome
def eqOwn (C : Ctx) (c : Nat) (x y : PV) (M : Mem) : Res PV := match C.G.eqs.lookup c, known C.G M y with
  | some f, true => (match C.call f [x, y] M with
    | .ok (.bl b) M1 => .ok (.bl b) M1
    | _ => .stuck)
  | _, _ => .stuck
def neOwn (C : Ctx) (c : Nat) (x y : PV) (M : Mem) : Res PV := match C.G.eqs.lookup c, known C.G M y with
  | some f, true => (match C.call f [x, y] M with
    | .ok (.bl b) M1 => .ok (.bl (!b)) M1
    | _ => .stuck)
  | _, _ => .stuck
/-- == of dicts: the values are data without dicts -/
def eqDeep (M : Mem) (x y : PV) : Option Bool := (deep M x).bind fun d => (deep M y).bind fun e => if PySem.SeqAt.shaped d && PySem.SeqAt.shaped e then some (PySem.PyData.eqv d e) else none
def eqHit (M : Mem) (kb : List (PV × PV)) : List (PV × PV) → Option Bool
  | [] => some true
  | (k, v) :: r => match getK k kb with
    | none => some false
    | some y => (eqDeep M v y).bind fun e => (eqHit M kb r).map fun b => e && b
def eqDic (M : Mem) (ka kb : List (PV × PV)) : Option Bool := match decide (ka.length = kb.length) with
  | true => eqHit M kb ka
  | false => some false
def cmpEq (C : Ctx) (x y : PV) (M : Mem) : Res PV := match rd M x, rd M y with
  | .ins c _, _ => eqOwn C c x y M
  | _, .ins _ _ => .stuck
  | .dic ka, .dic kb => ofOpt M ((eqDic M ka kb).map .bl)
  | _, _ => ofOpt M ((eqData M x y).map .bl)
def cmpNe (C : Ctx) (x y : PV) (M : Mem) : Res PV := match rd M x, rd M y with
  | .ins c _, _ => neOwn C c x y M
  | _, .ins _ _ => .stuck
  | _, _ => ofOpt M ((eqData M x y).map fun b => .bl (!b))
def cmpIs (n : Bool) (x y : PV) (M : Mem) : Res PV := match y, x with
  | .non, .non => bl (!n) M
  | .non, _ => bl n M
  | _, _ => .stuck
def cmpLt (x y : PV) (M : Mem) : Res PV := match x, y with
  | .int i, .int j => bl (decide (i < j)) M
  | .str a, .str b => bl (decide (cps a < cps b)) M
  | _, _ => .stuck
def cmpLe (x y : PV) (M : Mem) : Res PV := match x, y with
  | .int i, .int j => bl (decide (i ≤ j)) M
  | .str a, .str b => bl (!decide (cps b < cps a)) M
  | _, _ => .stuck
def cmpop (C : Ctx) (op : CmpOp) (x y : PV) (M : Mem) : Res PV := match op with
  | .Eq => cmpEq C x y M
  | .NotEq => cmpNe C x y M
  | .In => ofOpt M ((isIn M x y).map .bl)
  | .NotIn => ofOpt M ((isIn M x y).map fun b => .bl (!b))
  | .Is => cmpIs false x y M
  | .IsNot => cmpIs true x y M
  | .Lt => cmpLt x y M
  | .LtE => cmpLe x y M
  | .Gt => cmpLt y x M
  | .GtE => cmpLe y x M

/-! ### items, slices -/
def getIx (M : Mem) (x i : PV) : Res PV := match rd M x, i with
  | .lst xs, .int i => ofOpt M (L2.atI xs i)
  | .tup xs, .int i => ofOpt M (L2.atI xs i)
  | .str z, .int i => ofOpt M ((L2.atI z.cps.toList i).map fun c => .str ⟨#[c]⟩)
  | .dic kvs, .str k => ofOpt M (getK (.str k) kvs)
  | .dic kvs, .int k => ofOpt M (getK (.int k) kvs)
  | _, _ => .stuck
def bnd : PV → Option (Option Int)
  | .non => some none
  | .int i => some (some i)
  | _ => none
def cut {α : Type} (xs : List α) (lo hi : Option Int) : List α := (xs.drop (HT.sIx xs.length 0 lo)).take (HT.sIx xs.length xs.length hi - HT.sIx xs.length 0 lo)
def slice (m : Bool) (x : PV) (lo hi : Option Int) (M : Mem) : Res PV := match rd M x with
  | .lst xs => mkL m (cut xs lo hi) M
  | .tup xs => .ok (.tup (cut xs lo hi)) M
  | .str z => .ok (.str ⟨(cut z.cps.toList lo hi).toArray⟩) M
  | _ => .stuck
def revOf (m : Bool) (x : PV) (M : Mem) : Res PV := match rd M x with
  | .lst xs => mkL m xs.reverse M
  | .tup xs => .ok (.tup xs.reverse) M
  | _ => .stuck
/-- a bound's number, then what follows -/
def withB (p : PV) (k : Option Int → Res PV) : Res PV := match bnd p with
  | some l => k l
  | none => .stuck

/-! ### built-in functions, methods -/
def lenOf (M : Mem) (x : PV) : Option Nat := match rd M x with
  | .str z => some z.length
  | .lst xs => some xs.length
  | .tup xs => some xs.length
  | .dic kvs => some kvs.length
  | _ => none
def seqOf (M : Mem) (v : PV) : Option (List PV) := match rd M v with
  | .lst xs => some xs
  | .tup xs => some xs
  | _ => none
mutual
/-- no list in it, no reference -/
def PV.nl : PV → Bool
  | .non | .bl _ | .int _ | .str _ => true
  | .tup xs => PV.nls xs
  | .dic kvs => PV.nld kvs
  | _ => false
def PV.nls : List PV → Bool
  | [] => true
  | x :: r => PV.nl x && PV.nls r
def PV.nld : List (PV × PV) → Bool
  | [] => true
  | (_, v) :: r => PV.nl v && PV.nld r
end
def reprOk (x : PV) (d : PySem.PyData) : Bool := PySem.PyData.showable d && ((!d.hasDict || x.nl) && (decide (d.depth ≤ 60) && decide (d.shown.length ≤ sline)))
def lstOf (M : Mem) (v : PV) : Option (List PV) := match rd M v with
  | .lst xs => some xs
  | _ => none
def insertS (x : Str) : List Str → List Str
  | [] => [x]
  | y :: r => if cps y < cps x then y :: insertS x r else x :: y :: r
def sortS (xs : List Str) : List Str := xs.foldr insertS []
def insertI (x : Int) : List Int → List Int
  | [] => [x]
  | y :: r => if y < x then y :: insertI x r else x :: y :: r
def sortI (xs : List Int) : List Int := xs.foldr insertI []
def strsOf : List PV → Option (List Str)
  | [] => some []
  | .str x :: r => (strsOf r).map (x :: ·)
  | _ :: _ => none
def intsOf : List PV → Option (List Int)
  | [] => some []
  | .int x :: r => (intsOf r).map (x :: ·)
  | _ :: _ => none
def blsOf : List PV → Option (List Bool)
  | [] => some []
  | .bl x :: r => (blsOf r).map (x :: ·)
  | _ :: _ => none
def mergeP (acc : List (PV × PV)) : List (PV × PV) → List (PV × PV)
  | [] => acc
  | (k, v) :: r => mergeP (putKV k v acc) r
/-- a dict is made: a cell or a tree -/
def mkD (m : Bool) (kvs : List (PV × PV)) (M : Mem) : Res PV := match m with
  | true => .ok (.ref M.length) (M ++ [.dic kvs])
  | false => .ok (.dic kvs) M
/-- pairs of keys and values -/
def pairsOf : List PV → Option (List (PV × PV))
  | [] => some []
  | .tup [k, v] :: r => (match isKey k with
    | true => (pairsOf r).map ((k, v) :: ·)
    | false => none)
  | _ :: _ => none
def keyFits : PV → Bool
  | .str x => decide (x.length ≤ sline)
  | _ => true
/-- list(d), dict(d) -/
def keysOf (m : Bool) (x : PV) (M : Mem) : Res PV := match rd M x with
  | .dic kvs => guard (decide (kvs.length ≤ sline) && kvs.all fun kv => keyFits kv.1) (mkL m (kvs.map (·.1)) M)
  | _ => .stuck
def dictOf (m : Bool) (x : PV) (M : Mem) : Res PV := match rd M x with
  | .dic kvs => guard (decide (kvs.length ≤ sline)) (mkD m kvs M)
  | .lst ps => (match pairsOf ps with
    | some kvs => guard (decide (kvs.length ≤ sline)) (mkD m (mergeP [] kvs) M)
    | none => .stuck)
  | _ => .stuck
def bfn (b : BF) (m : Bool) (as : List PV) (M : Mem) : Res PV := match b, as with
  | .len, [x] => ofOpt M ((lenOf M x).map fun n => .int n)
  | .repr, [x] => ofOpt M ((deep M x).bind fun d => if reprOk x d then some (.str d.shown) else none)
  | .strOf, [.str x] => .ok (.str x) M
  | .strOf, [.int i] => guard (decide (i.natAbs.log2 < 1920)) (.ok (.str (toString i)) M)
  | .intOf, [.int i] => .ok (.int i) M
  | .intOf, [.bl b] => .ok (.int (if b then 1 else 0)) M
  | .listOf, [x] => (match seqOf M x with
    | some xs => mkL m xs M
    | none => keysOf m x M)
  | .dictNew, [x] => dictOf m x M
  | .tupleOf, [x] => (match seqOf M x with
    | some xs => .ok (.tup xs) M
    | none => .stuck)
  | .maxOf, [.int i, .int j] => .ok (.int (if j > i then j else i)) M
  | .minOf, [.int i, .int j] => .ok (.int (if j < i then j else i)) M
  | .sumOf, [x] => (match (lstOf M x).bind intsOf with
    | some ns => .ok (.int ns.sum) M
    | none => .stuck)
  | .allOf, [x] => (match (lstOf M x).bind blsOf with
    | some ns => .ok (.bl (ns.all id)) M
    | none => .stuck)
  | .anyOf, [x] => (match (lstOf M x).bind blsOf with
    | some ns => .ok (.bl (ns.any id)) M
    | none => .stuck)
  | .sortedOf, [x] => (match (lstOf M x).bind strsOf with
    | some ns => guard (decide (ns.length < 64)) (mkL m ((sortS ns).map .str) M)
    | none => (match (lstOf M x).bind intsOf with
      | some ns => mkL m ((sortI ns).map .int) M
      | none => .stuck))
  | .absOf, [.int i] => .ok (.int (if i < 0 then -i else i)) M
  | _, _ => .stuck
def bmeth (b : BM) (m : Bool) (x : PV) (as : List PV) (M : Mem) : Res PV := match b, x, as with
  | .append, .ref i, [v] => (match M[i]? with
    | some (.lst xs) => guard (decide (xs.length < sline)) (.ok .non (M.set i (.lst (xs ++ [v]))))
    | _ => .stuck)
  | .extend, .ref i, [y] => (match M[i]?, rd M y with
    | some (.lst xs), .lst ys => guard (decide (xs.length + ys.length ≤ sline)) (.ok .non (M.set i (.lst (xs ++ ys))))
    | _, _ => .stuck)
  | .clear, .ref i, [] => (match M[i]? with
    | some (.lst _) => .ok .non (M.set i (.lst []))
    | _ => .stuck)
  | .pop, .ref i, [] => (match M[i]? with
    | some (.lst xs) => (match xs.getLast? with
      | some v => .ok v (M.set i (.lst xs.dropLast))
      | none => .stuck)
    | _ => .stuck)
  | .get, x, [k] => (match rd M x, isKey k with
    | .dic kvs, true => .ok ((getK k kvs).getD .non) M
    | _, _ => .stuck)
  | .getOr, x, [k, d] => (match rd M x, isKey k with
    | .dic kvs, true => .ok ((getK k kvs).getD d) M
    | _, _ => .stuck)
  | .popAt, .ref i, [k] => (match M[i]?, isKey k with
    | some (.dic kvs), true => (match getK k kvs with
      | some v => .ok v (M.set i (.dic (kvs.filter fun kv => !eqK kv.1 k)))
      | none => .stuck)
    | _, _ => .stuck)
  | .join, .str z, [y] => (match (seqOf M y).bind strsOf with
    | some xs => guard (decide ((xs.map (·.length)).sum + xs.length * z.length ≤ sline) && decide ((PySem.Txt.join z xs).length ≤ sline)) (.ok (.str (PySem.Txt.join z xs)) M)
    | none => .stuck)
  | .split, .str z, [.str y] => guard (decide (z.length + 2 ≤ sline) && decide (0 < y.length) && decide ((PySem.Txt.split z y).length ≤ sline) && (PySem.Txt.split z y).all fun w => decide (w.length ≤ sline)) (mkL m ((PySem.Txt.split z y).map .str) M)
  | _, _, _ => .stuck

/-- the receiver's type -/
def bmOk (b : BM) (x : PV) : Bool := match b, x with
  | .append, .lst _ | .extend, .lst _ | .pop, .lst _ | .popAt, .dic _ | .clear, .lst _ | .reverse, .lst _ | .index, .lst _ | .count, .lst _ => true
  | .split, .str _ | .join, .str _ | .upper, .str _ => true
  | .get, .dic _ | .getOr, .dic _ | .values, .dic _ | .items, .dic _ | .keys, .dic _ => true
  | _, _ => false

/-! ### targets, iterables -/
mutual
def bindT : CT → PV → Env → Mem → Option Env
  | .nm i, v, ε, _ => some (ε.set i (some v))
  | .tup ts, v, ε, M => (match rd M v with
    | .tup xs => bindTs ts xs ε M
    | _ => none)
def bindTs : List CT → List PV → Env → Mem → Option Env
  | [], [], ε, _ => some ε
  | t :: ts, x :: xs, ε, M => (bindT t x ε M).bind fun ε => bindTs ts xs ε M
  | _, _, _, _ => none
end
def wipeE (ε : Env) : List Nat → Env
  | [] => ε
  | v :: vs => (wipeE ε vs).set v none
def enumFrom (n : Int) : List PV → List PV
  | [] => []
  | x :: r => .tup [.int n, x] :: enumFrom (n + 1) r
def zipPV : List PV → List PV → List PV
  | x :: r, y :: s => .tup [x, y] :: zipPV r s
  | _, _ => []
/-- the items, and the cells that must stand still -/
abbrev Items := List PV × List (Nat × List PV)
/-- the keys of a dict -/
def keySrc (kvs : List (PV × PV)) : Option Items := if kvs.all fun kv => keyFits kv.1 then some (kvs.map (·.1), []) else none
def srcOf (M : Mem) (v : PV) : Option Items := match v with
  | .ref i => (match M[i]? with
    | some (.lst xs) => some (xs, [(i, xs)])
    | _ => none)
  | .lst xs => some (xs, [])
  | .tup xs => some (xs, [])
  | .str z => some (z.cps.toList.map fun c => .str ⟨#[c]⟩, [])
  | .dic kvs => keySrc kvs
  | _ => none
/-- the values, the pairs of a dict -/
def valSrc (v : PV) : Option Items := match v with
  | .dic kvs => some (kvs.map (·.2), [])
  | _ => none
def itemSrc (v : PV) : Option Items := match v with
  | .dic kvs => if kvs.all fun kv => keyFits kv.1 then some (kvs.map fun kv => .tup [kv.1, kv.2], []) else none
  | _ => none
def listSrc (M : Mem) (v : PV) : Option Items := match v with
  | .ref i => (match M[i]? with
    | some (.lst xs) => some (xs, [(i, xs)])
    | _ => none)
  | .lst xs => some (xs, [])
  | _ => none
def enSrc (M : Mem) (v : PV) : Option Items := match v with
  | .tup xs => some (xs, [])
  | v => listSrc M v
def still (src : List (Nat × List PV)) (M : Mem) : Bool := src.all fun p => match M[p.1]? with
  | some (.lst xs) => PV.beqs xs p.2
  | _ => false

/-- behind a call: the callee's own cells go, where nothing holds them -/
def fin (M : Mem) (v : PV) (M1 : Mem) : PV × Mem := match v.lt M.length && dropOk M.length M M1 with
  | true => (v, M1.take M.length)
  | false => (v, M1)
/-- the keys and values of a display, by turns -/
def pairUp : List PV → Option (List (PV × PV))
  | [] => some []
  | [_] => none
  | k :: v :: r => match isKey k with
    | true => (pairUp r).map fun l => (k, v) :: l
    | false => none
def dicOut (m : Bool) (M0 : Mem) (kvs : List (PV × PV)) (M : Mem) : Res PV := match m with
  | true => .ok (.ref M0.length) M
  | false => .ok (.dic kvs) (fin M0 (.dic kvs) (M.set M0.length .dead)).2
/-- behind a display: the dict, made in a cell -/
def dicEnd (m : Bool) (M0 : Mem) (ps : List PV) (M : Mem) : Res PV := match pairUp ps, M[M0.length]? with
  | some kvs, some (.dic []) => (match decide (kvs.length ≤ 15) with
    | true => dicOut m M0 (mergeP [] kvs) (M.set M0.length (.dic (mergeP [] kvs)))
    | false => .stuck)
  | _, _ => .stuck
/-- [elt for t in items if tests]: the list is made in the cell n -/
def lcLoop (own : List Nat) (t : CT) (tests : Env → Mem → Res Bool) (elt : Env → Mem → Res PV) (src : List (Nat × List PV)) (ε : Env) (n : Nat) : List PV → Mem → Res Unit
  | [], M => (match still src M with
    | true => .ok () M
    | false => .stuck)
  | x :: r, M => (match still src M, bindT t x (wipeE ε own) M with
    | true, some ε1 => (match tests ε1 M with
      | .ok true M1 => (match elt ε1 M1 with
        | .ok v M2 => (match M2[n]? with
          | some (.lst acc) => (match decide (acc.length < sline) with
            | true => lcLoop own t tests elt src ε n r (M2.set n (.lst (acc ++ [v])))
            | false => .stuck)
          | _ => .stuck)
        | _ => .stuck)
      | .ok false M1 => lcLoop own t tests elt src ε n r M1
      | _ => .stuck)
    | _, _ => .stuck)
/-- behind a comprehension: the cell stays, or its tree is handed out -/
def lcEnd (m : Bool) (M0 M : Mem) : Res PV := match m with
  | true => .ok (.ref M0.length) M
  | false => (match M[M0.length]? with
    | some (.lst xs) => .ok (.lst xs) (fin M0 (.lst xs) (M.set M0.length .dead)).2
    | _ => .stuck)
/-- a dict's item by a comprehension -/
def putD (n : Nat) (k v : PV) (M : Mem) : Option Mem := match isKey k, M[n]? with
  | true, some (.dic kvs) => (match decide (kvs.length < sline) with
    | true => some (M.set n (.dic (putKV k v kvs)))
    | false => none)
  | _, _ => none
/-- {ke: ve for t in items}: the dict is made in the cell n -/
def dcLoop (own : List Nat) (t : CT) (ke ve : Env → Mem → Res PV) (src : List (Nat × List PV)) (ε : Env) (n : Nat) : List PV → Mem → Res Unit
  | [], M => (match still src M with
    | true => .ok () M
    | false => .stuck)
  | x :: r, M => (match still src M, bindT t x (wipeE ε own) M with
    | true, some ε1 => (match ke ε1 M with
      | .ok k M1 => (match ve ε1 M1 with
        | .ok v M2 => (match putD n k v M2 with
          | some M3 => dcLoop own t ke ve src ε n r M3
          | none => .stuck)
        | _ => .stuck)
      | _ => .stuck)
    | _, _ => .stuck)
/-- .. with a second loop within -/
def dcLoop2 (own own1 : List Nat) (t t1 : CT) (it1 : Env → Mem → Res Items) (ke ve : Env → Mem → Res PV) (src : List (Nat × List PV)) (ε : Env) (n : Nat) : List PV → Mem → Res Unit
  | [], M => (match still src M with
    | true => .ok () M
    | false => .stuck)
  | x :: r, M => (match still src M, bindT t x (wipeE ε own) M with
    | true, some ε1 => (match it1 ε1 M with
      | .ok its M1 => (dcLoop own1 t1 ke ve its.2 ε1 n its.1 M1).bind fun _ M2 => dcLoop2 own own1 t t1 it1 ke ve src ε n r M2
      | _ => .stuck)
    | _, _ => .stuck)
/-- behind a dict's comprehension -/
def dcEnd (m : Bool) (M0 M : Mem) : Res PV := match m with
  | true => .ok (.ref M0.length) M
  | false => (match M[M0.length]? with
    | some (.dic kvs) => .ok (.dic kvs) (fin M0 (.dic kvs) (M.set M0.length .dead)).2
    | _ => .stuck)
def Res.test (r : Res PV) : Res Bool := r.bind fun v M => match truthy M v with
  | some b => .ok b M
  | none => .stuck

section
variable (C : Ctx)
mutual
def ev : CE → Env → Mem → Res PV
  | .lit v, _, M => .ok v M
  | .loc i, ε, M => (match ε[i]? with
    | some (some v) => .ok v M
    | _ => .stuck)
  | .glo v, _, M => .ok v M
  | .tup es, ε, M => (evs es ε M).bind fun vs M => .ok (.tup vs) M
  | .lst m es, ε, M => (evs es ε M).bind fun vs M => mkL m vs M
  | .dic m ks _, ε, M => (match ks.isEmpty with
    | true => (match m with
      | true => .ok (.ref M.length) (M ++ [.dic []])
      | false => .ok (.dic []) M)
    | false => (evs ks ε (M ++ [.dic []])).bind fun ps M1 => dicEnd m M ps M1)
  | .bin op m a b, ε, M => (ev a ε M).bind fun x M => (ev b ε M).bind fun y M => binop m op x y M
  | .neg a, ε, M => (ev a ε M).bind fun x M => (match x with
    | .int i => .ok (.int (-i)) M
    | _ => .stuck)
  | .cmp op a b, ε, M => (ev a ε M).bind fun x M => (ev b ε M).bind fun y M => cmpop C op x y M
  | .chn o1 o2 a b c, ε, M => (ev a ε M).bind fun x M => (ev b ε M).bind fun y M => (cmpop C o1 x y M).bind fun r M => (match r with
    | .bl true => (ev c ε M).bind fun z M => cmpop C o2 y z M
    | .bl false => .ok (.bl false) M
    | _ => .stuck)
  | .and a b, ε, M => (ev a ε M).bind fun x M => (match truthy M x with
    | some true => ev b ε M
    | some false => .ok x M
    | none => .stuck)
  | .or a b, ε, M => (ev a ε M).bind fun x M => (match truthy M x with
    | some false => ev b ε M
    | some true => .ok x M
    | none => .stuck)
  | .not a, ε, M => (ev a ε M).test.bind fun b M => .ok (.bl (!b)) M
  | .ife c a b, ε, M => (ev c ε M).test.bind fun t M => (match t with
    | true => ev a ε M
    | false => ev b ε M)
  | .fld e k, ε, M => (ev e ε M).bind fun x M => (match rd M x with
    | .ins c fs => (match fs.lookup k with
      | some v => (match C.G.flds.contains (c, k) with
        | true => .ok v M
        | false => .stuck)
      | none => (match C.G.props.lookup (c, k) with
        | some f => (match C.call f [x] M with
          | .ok v M => .ok v M
          | _ => .stuck)
        | none => .stuck))
    | .exc c fs => (match C.G.xflds.contains (c, k) with
      | true => ofOpt M (fs.lookup k)
      | false => .stuck)
    | _ => .stuck)
  | .idx a i, ε, M => (ev a ε M).bind fun x M => (ev i ε M).bind fun y M => getIx M x y
  | .slc m a lo hi, ε, M => (ev a ε M).bind fun x M => (ev lo ε M).bind fun l M => withB l fun l => (ev hi ε M).bind fun h M => withB h fun h => slice m x l h M
  | .rev m a, ε, M => (ev a ε M).bind fun x M => revOf m x M
  | .call f as, ε, M => (evs as ε M).bind fun vs M => C.call f vs M
  | .bfn b m as, ε, M => (evs as ε M).bind fun vs M => bfn b m vs M
  | .met o k as, ε, M => (ev o ε M).bind fun x M => (match rd M x with
    | .ins c fs => (match C.G.meths.lookup (c, k), fs.lookup k with
      | some f, none => (evs as ε M).bind fun vs M => C.call f (x :: vs) M
      | _, _ => .stuck)
    | _ => .stuck)
  | .bme o b m as, ε, M => (ev o ε M).bind fun x M => (match bmOk b (rd M x) with
    | true => (evs as ε M).bind fun vs M => bmeth b m x vs M
    | false => .stuck)
  | .lc m own elt t it ifs, ε, M => (evi it ε M).bind fun its M => (lcLoop own t (fun ε M => match ifs with
    | [] => .ok true M
    | [c] => (ev c ε M).test
    | _ => .stuck) (fun ε M => ev elt ε M) its.2 ε M.length its.1 (M ++ [.lst []])).bind fun _ M1 => lcEnd m M M1
  | .isi e ts _, ε, M => (ev e ε M).bind fun x M => ofOpt M ((isAny C.G M x ts).map .bl)
  | .frz e, ε, M => (ev e ε M).bind fun x M => (match x with
    | .ref i => (match M[i]? with
      | some (.lst xs) => .ok (.lst xs) (M.set i .dead)
      | _ => .stuck)
    | _ => .stuck)
  | .no, _, _ => .stuck
  | .lenO k o, ε, M => (ev o ε M).bind fun x M => (match rd M x with
    | .ins c _ => (match C.G.meths.lookup (c, k) with
      | some f => (match C.call f [x] M with
        | .ok (.int i) M1 => guard (decide (0 ≤ i) && decide (i < 4611686018427387904)) (.ok (.int i) M1)
        | _ => .stuck)
      | none => .stuck)
    | _ => .stuck)
  | .opO k a b, ε, M => (ev a ε M).bind fun x M => (ev b ε M).bind fun y M => (match rd M x, rd M y with
    | .ins c _, .ins d _ => (match c == d, C.G.meths.lookup (c, k) with
      | true, some f => C.call f [x, y] M
      | _, _ => .stuck)
    | _, _ => .stuck)
  | .opI k a b, ε, M => (ev a ε M).bind fun x M => (ev b ε M).bind fun y M => (match rd M x with
    | .ins c _ => (match C.G.meths.lookup (c, k) with
      | some f => C.call f [x, y] M
      | none => .stuck)
    | _ => .stuck)
  | .opL k a b, ε, M => (ev a ε M).bind fun x M => (ev b ε M).bind fun y M => (match rd M x, seqOf M y with
    | .ins c _, some _ => (match C.G.meths.lookup (c, k) with
      | some f => C.call f [x, y] M
      | none => .stuck)
    | _, _ => .stuck)
  | .dcm m own k v t it, ε, M => (evi it ε M).bind fun its M => (dcLoop own t (fun ε M => ev k ε M) (fun ε M => ev v ε M) its.2 ε M.length its.1 (M ++ [.dic []])).bind fun _ M1 => dcEnd m M M1
  | .dcm2 m own own1 k v t it t1 it1, ε, M => (evi it ε M).bind fun its M => (dcLoop2 own own1 t t1 (fun ε M => evi it1 ε M) (fun ε M => ev k ε M) (fun ε M => ev v ε M) its.2 ε M.length its.1 (M ++ [.dic []])).bind fun _ M1 => dcEnd m M M1
  | .lrng m a, ε, M => (ev a ε M).bind fun v M => (match v with
    | .int n => guard (decide (-4611686018427387904 ≤ n) && decide (n ≤ 16777216)) (mkL m ((List.range n.toNat).map fun (i : Nat) => .int (i : Int)) M)
    | _ => .stuck)
def evs : List CE → Env → Mem → Res (List PV)
  | [], _, M => .ok [] M
  | e :: r, ε, M => (ev e ε M).bind fun v M => (evs r ε M).bind fun vs M => .ok (v :: vs) M
def evi : CI → Env → Mem → Res Items
  | .of e, ε, M => (ev e ε M).bind fun v M => (match srcOf M v with
    | some it => .ok it M
    | none => .stuck)
  | .rng1 a, ε, M => (ev a ε M).bind fun v M => (match v with
    | .int n => if decide (-4611686018427387904 ≤ n) && decide (n < 4611686018427387904) then .ok ((List.range n.toNat).map fun (i : Nat) => .int (i : Int), []) M else .stuck
    | _ => .stuck)
  | .rng2 a b, ε, M => (ev a ε M).bind fun v M => (ev b ε M).bind fun u M => (match v, u with
    | .int l, .int n => if decide (-4611686018427387904 ≤ l) && decide (l < 4611686018427387904) && decide (-4611686018427387904 ≤ n) && decide (n < 4611686018427387904) then .ok ((List.range (n - l).toNat).map fun (i : Nat) => .int (l + (i : Int)), []) M else .stuck
    | _, _ => .stuck)
  | .enm a, ε, M => (ev a ε M).bind fun v M => (match listSrc M v with
    | some it => .ok (enumFrom 0 it.1, it.2) M
    | none => .stuck)
  | .enm2 a, ε, M => (ev a ε M).bind fun v M => (match enSrc M v with
    | some it => .ok (enumFrom 0 it.1, it.2) M
    | none => .stuck)
  | .zip a b, ε, M => (ev a ε M).bind fun v M => (ev b ε M).bind fun u M => (match listSrc M v, listSrc M u with
    | some i, some j => .ok (zipPV i.1 j.1, i.2 ++ j.2) M
    | _, _ => .stuck)
  | .dvals e, ε, M => (ev e ε M).bind fun v M => (match valSrc v with
    | some it => .ok it M
    | none => .stuck)
  | .ditems e, ε, M => (ev e ε M).bind fun v M => (match itemSrc v with
    | some it => .ok it M
    | none => .stuck)
end
/-! ### statements -/
def forLoop (t : CT) (body : Env → Mem → Out) (src : List (Nat × List PV)) : List PV → Env → Mem → Out
  | [], ε, M => (match still src M with
    | true => .nx ε M
    | false => .stuck)
  | x :: r, ε, M => (match still src M, bindT t x ε M with
    | true, some ε1 => (match body ε1 M with
      | .nx ε2 M2 => forLoop t body src r ε2 M2
      | .ct ε2 M2 => forLoop t body src r ε2 M2
      | .bk ε2 M2 => .nx ε2 M2
      | o => o)
    | _, _ => .stuck)
def whlLoop (test : Env → Mem → Res Bool) (body : Env → Mem → Out) : Nat → Env → Mem → Out
  | 0, _, _ => .stuck
  | n + 1, ε, M => (test ε M).out ε fun b M => match b with
    | true => (match body ε M with
      | .nx ε2 M2 => whlLoop test body n ε2 M2
      | .ct ε2 M2 => whlLoop test body n ε2 M2
      | .bk ε2 M2 => .nx ε2 M2
      | o => o)
    | false => .nx ε M
def putF (k : Nat) (v : PV) : List (Nat × PV) → List (Nat × PV)
  | [] => [(k, v)]
  | (j, u) :: r => if j = k then (k, v) :: r else (j, u) :: putF k v r
def setIx (x i v : PV) (M : Mem) : Option Mem := match x, i with
  | .ref a, .int i => (match M[a]? with
    | some (.lst xs) => (L2.ixN xs.length i).map fun j => M.set a (.lst (xs.set j v))
    | some (.dic kvs) => if kvs.length < sline then some (M.set a (.dic (putKV (.int i) v kvs))) else none
    | _ => none)
  | .ref a, .str i => (match M[a]? with
    | some (.dic kvs) => if kvs.length < sline then some (M.set a (.dic (putKV (.str i) v kvs))) else none
    | _ => none)
  | _, _ => none
def augI (op : Operator) (x y : PV) : Option PV := match op, x, y with
  | .Add, .int a, .int b => some (.int (a + b))
  | .Sub, .int a, .int b => some (.int (a - b))
  | _, _, _ => none
def excOf (G : Glo) (c : Nat) (vs : List PV) : Option PV := match G.excs.lookup c with
  | some none => if vs.length = 1 then some (.exc c []) else none
  | some (some fs) => if vs.length = fs.length then some (.exc c (fs.zip vs)) else none
  | none => none
/-- a slot's cell becomes a tree -/
def frzE (i : Nat) (ε : Env) (M : Mem) : Env × Mem := match ε[i]? with
  | some (some (.ref j)) => (match M[j]? with
    | some (.lst xs) => (ε.set i (some (.lst xs)), M.set j .dead)
    | some (.dic kvs) => (ε.set i (some (.dic kvs)), M.set j .dead)
    | _ => (ε, M))
  | _ => (ε, M)
def unset (i : Option Nat) (ε : Env) : Env := match i with
  | some i => ε.set i none
  | none => ε
def Out.unset (i : Option Nat) : Out → Out
  | .nx ε M => .nx (WT.unset i ε) M
  | .bk ε M => .bk (WT.unset i ε) M
  | .ct ε M => .ct (WT.unset i ε) M
  | .rt v M => .rt v M
  | _ => .stuck
def catch_ (G : Glo) (c : Nat) (i : Option Nat) (suite : Env → Mem → Out) (o : Out) : Out := match o with
  | .er (.exc d fs) ε M => (match clsOk G true d with
    | some l => (match l.contains c with
      | true => (suite (match i with
        | some i => ε.set i (some (.exc d fs))
        | none => ε) M).unset i
      | false => .er (.exc d fs) ε M)
    | none => .stuck)
  | .er _ _ _ => .stuck
  | o => o
mutual
def ex : CS → Env → Mem → Out
  | .expr e, ε, M => (ev C e ε M).out ε fun _ M => .nx ε M
  | .asg t e, ε, M => (ev C e ε M).out ε fun v M => (match bindT t v ε M with
    | some ε1 => .nx ε1 M
    | none => .stuck)
  | .setf o k e, ε, M => (ev C e ε M).out ε fun v M => (ev C o ε M).out ε fun x M => (match x with
    | .ref i => (match M[i]? with
      | some (.ins c fs) => (match decide (fs.length < 1000) && C.G.flds.contains (c, k) with
        | true => .nx ε (M.set i (.ins c (putF k v fs)))
        | false => .stuck)
      | _ => .stuck)
    | _ => .stuck)
  | .seti o i e, ε, M => (ev C e ε M).out ε fun v M => (ev C o ε M).out ε fun x M => (ev C i ε M).out ε fun j M => (match setIx x j v M with
    | some M1 => .nx ε M1
    | none => .stuck)
  | .aug i op e, ε, M => (match ε[i]? with
    | some (some x) => (ev C e ε M).out ε fun y M => (match augI op x y with
      | some z => .nx (ε.set i (some z)) M
      | none => .stuck)
    | _ => .stuck)
  | .ret e, ε, M => (ev C e ε M).out ε fun v M => .rt v M
  | .retN, _, M => .rt .non M
  | .pass, ε, M => .nx ε M
  | .brk, ε, M => .bk ε M
  | .cnt, ε, M => .ct ε M
  | .ife c a b, ε, M => (ev C c ε M).test.out ε fun t M => (match t with
    | true => exs a ε M
    | false => exs b ε M)
  | .for_ t it body, ε, M => (evi C it ε M).out ε fun its M => forLoop t (fun ε M => exs body ε M) its.2 its.1 ε M
  | .whl c body, ε, M => whlLoop (fun ε M => (ev C c ε M).test) (fun ε M => exs body ε M) C.w ε M
  | .rais c as, ε, M => (evs C as ε M).out ε fun vs M => (match excOf C.G c vs with
    | some e => .er e ε M
    | none => .stuck)
  | .tryx body c i suite, ε, M => catch_ C.G c i (fun ε M => exs suite ε M) (exs body ε M)
  | .no, _, _ => .stuck
  | .gh i s, ε, M => ex s (frzE i ε M).1 (frzE i ε M).2
def exs : List CS → Env → Mem → Out
  | [], ε, M => .nx ε M
  | s :: r, ε, M => (ex s ε M).seq fun ε M => exs r ε M
end
end
/-! ### calls -/
def finO (M : Mem) (o : Out) : Res PV := match o with
  | .nx _ M1 => .ok .non (fin M .non M1).2
  | .rt v M1 => .ok v (fin M v M1).2
  | .er e _ M1 => .err e (fin M e M1).2
  | _ => .stuck
/-- a new instance, behind its __init__ -/
def mkFrz (M M1 : Mem) : Res PV := match M1[M.length]? with
  | some (.ins d fs) => .ok (.ins d fs) (fin M (.ins d fs) (M1.set M.length .dead)).2
  | _ => .stuck
def mkEnd (fr : Bool) (M : Mem) (r : PV) (M1 : Mem) : Res PV := match r, fr with
  | .non, true => mkFrz M M1
  | .non, false => .ok (.ref M.length) M1
  | _, _ => .stuck
def runFn (C : Ctx) (f : Fn) (as : List PV) (M : Mem) : Res PV := match f with
  | .fn d => if as.length = d.np then finO M (exs C d.body (as.map some ++ List.replicate (d.ns - d.np) none) M) else .stuck
  | .mk c init fr => (C.call init (.ref M.length :: as) (M ++ [.ins c []])).bind fun r M1 => mkEnd fr M r M1
  | .no => .stuck
def call (G : Glo) (w : Nat) : Nat → Nat → List PV → Mem → Res PV
  | 0, _, _, _ => .stuck
  | n + 1, f, as, M => (match G.fns[f]? with
    | some d => runFn ⟨call G w n, w, G⟩ d as M
    | none => .stuck)
end
end WT
set_option maxRecDepth 100000
set_option autoImplicit false
/-! Values against the abstract heap. -/
namespace WT
open PySem PySem.Spec PyProof.Rows L2
abbrev SS := L2.St

/-- the names' and classes' places in the written part -/
structure Gx where
  K : PySem.W.Frag
  nm : Nat → Str
  ca : Nat → Addr
  fa : Nat → Addr

/-- an exception object of the class cls, its dict at d -/
def XO (cls : Value) (d : Option Addr) (a : Addr) : HO := .ext fun h => ∃ (oe : Obj) (vs : Array Value), h.get? a = some oe ∧ Zc cls d oe ∧ oe.data = .fields vs

/-- a cell that lives stands at a -/
def live (ρ : List Addr) (M : Mem) (a : Addr) : Prop := ∃ (i : Nat) (c : Cell), ρ[i]? = some a ∧ M[i]? = some c ∧ c ≠ Cell.dead

section
variable (g : Gx) (ρ : List Addr) (M : Mem) (H : Hp)
/-- tracked, and no cell -/
def Own (a : Addr) (o : HO) : Prop := H a = some o ∧ ¬ live ρ M a
/-- a list's place: tracked (known to the object or not) and no cell, or written at the top -/
def LO (K : PySem.W.Frag) (a : Addr) (vs : List V) : Prop := (∃ o, Own ρ M H a o ∧ (o = .lst vs ∨ ∃ z, o = .frz z (.lst vs))) ∨
  ∃ (its : List Value) (n : Nat), K.lookup a = some { cls := .type "list", data := .seq its.toArray n } ∧ its.length ≤ sizeLine ∧ Vals vs its
/-- a dict's place: tracked (locked or not) and no cell -/
def DO (a : Addr) (kws : List (Key × V)) : Prop := ∃ o, Own ρ M H a o ∧ (o = .dK kws ∨ ∃ z, o = .frz z (.dK kws))
/-- a list's object: tracked, or written -/
def LQ (K : PySem.W.Frag) (H : Hp) (a : Addr) (vs : List V) : Prop := Rd H a (.lst vs) ∨ ∃ (its : List Value) (n : Nat), K.lookup a = some { cls := .type "list", data := .seq its.toArray n } ∧ its.length ≤ sizeLine ∧ Vals vs its
def kPV : Key → PV
  | .inl i => .int i
  | .inr x => .str x
mutual
def RV : PV → V → Prop
  | .non, v => v = .non
  | .bl b, v => v = .bl b
  | .int i, v => v = .int i
  | .str x, v => v = .str x ∧ x.length ≤ sizeLine
  | .tup xs, v => xs.length ≤ sizeLine ∧ ∃ a vs, v = .ref a ∧ SqT g.K H a vs ∧ RVs xs vs
  | .lst xs, v => xs.length ≤ sizeLine ∧ ∃ a vs, v = .ref a ∧ LO ρ M H g.K a vs ∧ RVs xs vs
  | .dic kvs, v => kvs.length ≤ sizeLine ∧ ∃ a kws, v = .ref a ∧ DO ρ M H a kws ∧ RVd kvs kws
  | .ins c fs, v => ∃ a dx fs', v = .ref a ∧ Own ρ M H a (.ins (g.ca c) dx fs') ∧ RVf fs fs'
  | .exc c fs, v => ∃ a, v = .ref a ∧ ¬ live ρ M a ∧ ((fs = [] ∧ H a = some (XO (.ref (g.ca c)) none a)) ∨ ∃ dx fs', H a = some (XO (.ref (g.ca c)) (some dx) a) ∧ H dx = some (.xd fs') ∧ ¬ live ρ M dx ∧ RVf fs fs')
  | .ref i, v => ∃ a, v = .ref a ∧ ρ[i]? = some a
  | .cls c, v => v = .ref (g.ca c)
  | .fn f, v => v = .ref (g.fa f)
  | .ty n, v => v = .ty n
  | .lk d o kws, v => v = .bl true ∧ Own ρ M H d (.frz o (.dK kws))
def RVs : List PV → List V → Prop
  | [], vs => vs = []
  | x :: r, vs => ∃ v s, vs = v :: s ∧ RV x v ∧ RVs r s
def RVd : List (PV × PV) → List (Key × V) → Prop
  | [], vs => vs = []
  | (k, x) :: r, vs => ∃ j v s, vs = (j, v) :: s ∧ k = kPV j ∧ RV x v ∧ RVd r s
def RVf : List (Nat × PV) → List (Str × V) → Prop
  | [], vs => vs = []
  | (k, x) :: r, vs => ∃ v s, vs = (g.nm k, v) :: s ∧ RV x v ∧ RVf r s
end
end

/-- the same object, or the dict locked -/
def Sm (o o' : HO) : Prop := o' = o ∨ ∃ kws z, o = .dK kws ∧ o' = .frz z (.dK kws)
def noD : HO → Prop
  | .dK _ => False
  | _ => True
/-- from one state to a later one: references stand, what is tracked and no cell stands and becomes no cell -/
structure Lat (ρ : List Addr) (M : Mem) (H : Hp) (ρ' : List Addr) (M' : Mem) (H' : Hp) : Prop where
  ref : ∀ (i : Nat) (a : Addr), ρ[i]? = some a → ρ'[i]? = some a
  keep : ∀ a o, H a = some o → ¬ live ρ M a → ∃ o', H' a = some o' ∧ ¬ live ρ' M' a ∧ Sm o o'
theorem Lat.own {ρ ρ' : List Addr} {M M' : Mem} {H H' : Hp} (l : Lat ρ M H ρ' M' H') (a : Addr) (o : HO) (h : H a = some o) (n : ¬ live ρ M a) (hd : noD o) : H' a = some o ∧ ¬ live ρ' M' a := by
  obtain ⟨o', h1, h2, rfl | ⟨kws, z, rfl, _⟩⟩ := l.keep a o h n
  · exact ⟨h1, h2⟩
  · exact hd.elim
/-- nothing is locked -/
theorem Lat.of {ρ ρ' : List Addr} {M M' : Mem} {H H' : Hp} (r : ∀ (i : Nat) (a : Addr), ρ[i]? = some a → ρ'[i]? = some a) (k : ∀ a o, H a = some o → ¬ live ρ M a → H' a = some o ∧ ¬ live ρ' M' a) : Lat ρ M H ρ' M' H' :=
  ⟨r, fun a o h n => ⟨o, (k a o h n).1, (k a o h n).2, .inl rfl⟩⟩
theorem Lat.refl {ρ : List Addr} {M : Mem} {H : Hp} : Lat ρ M H ρ M H := .of (fun _ _ h => h) fun _ _ h n => ⟨h, n⟩
theorem Sm.trans {a b c : HO} (h : Sm a b) (k : Sm b c) : Sm a c := by
  rcases h with rfl | ⟨kws, z, rfl, rfl⟩
  · exact k
  · rcases k with rfl | ⟨_, _, e, _⟩
    · exact .inr ⟨kws, z, rfl, rfl⟩
    · cases e
theorem Lat.trans {ρ ρ1 ρ2 : List Addr} {M M1 M2 : Mem} {H H1 H2 : Hp} (a : Lat ρ M H ρ1 M1 H1) (b : Lat ρ1 M1 H1 ρ2 M2 H2) : Lat ρ M H ρ2 M2 H2 :=
  ⟨fun i x h => b.ref i x (a.ref i x h), fun x o h n => let ⟨o1, h1, n1, s1⟩ := a.keep x o h n; let ⟨o2, h2, n2, s2⟩ := b.keep x o1 h1 n1; ⟨o2, h2, n2, s1.trans s2⟩⟩
section
variable {g : Gx} {ρ ρ' : List Addr} {M M' : Mem} {H H' : Hp}
/-- tuples are tracked, so never cells: they stand if what is tracked and no cell stands -/
theorem Own.later (l : Lat ρ M H ρ' M' H') {a : Addr} {o : HO} (h : Own ρ M H a o) (hd : noD o) : Own ρ' M' H' a o := l.own a _ h.1 h.2 hd
theorem LO.later {K : PySem.W.Frag} (l : Lat ρ M H ρ' M' H') {a : Addr} {vs : List V} (h : LO ρ M H K a vs) : LO ρ' M' H' K a vs := h.imp (fun ⟨o, k, e⟩ => ⟨o, k.later l (by rcases e with rfl | ⟨z, rfl⟩ <;> trivial), e⟩) id
theorem DO.later (l : Lat ρ M H ρ' M' H') {a : Addr} {kws : List (Key × V)} (h : DO ρ M H a kws) : DO ρ' M' H' a kws := by
  obtain ⟨o, k, e⟩ := h
  obtain ⟨o', h1, h2, rfl | ⟨kv, z, rfl, rfl⟩⟩ := l.keep a o k.1 k.2
  · exact ⟨_, ⟨h1, h2⟩, e⟩
  · rcases e with e | ⟨_, e⟩
    · cases e
      exact ⟨_, ⟨h1, h2⟩, .inr ⟨z, rfl⟩⟩
    · cases e
theorem DO.of {a : Addr} {kws : List (Key × V)} (h : Own ρ M H a (.dK kws)) : DO ρ M H a kws := ⟨_, h, .inl rfl⟩
theorem DO.rd {a : Addr} {kws : List (Key × V)} (h : DO ρ M H a kws) : Rd H a (.dK kws) := by
  obtain ⟨o, k, rfl | ⟨z, rfl⟩⟩ := h
  · exact .inl k.1
  · exact .inr ⟨z, k.1⟩
theorem LO.q {K : PySem.W.Frag} {a : Addr} {vs : List V} (h : LO ρ M H K a vs) : LQ K H a vs := by
  rcases h with ⟨o, k, rfl | ⟨z, rfl⟩⟩ | h
  · exact .inl (.inl k.1)
  · exact .inl (.inr ⟨z, k.1⟩)
  · exact .inr h
theorem LQ.sq {K : PySem.W.Frag} {a : Addr} {vs : List V} (h : LQ K H a vs) : SqL K H a vs := h.imp id fun ⟨its, n, e, z, r⟩ => ⟨_, its.toArray, n, e, rfl, rfl, rfl, by simpa using z, r⟩
theorem LQ.obj {X : Cx} {pins : List (Addr × Obj)} {σ : SS} {s : Shared} (I : Inv X pins σ H s) {a : Addr} {vs : List V} (h : LQ X.K H a vs) : vs.length ≤ sizeLine ∧ ∃ (its : List Value) (n : Nat), Vals vs its ∧ s.heap.get? a = some { cls := .type "list", data := .seq its.toArray n } := by
  rcases h with h | ⟨its, n, e, z, r⟩
  · exact h.ok I.hok
  · exact ⟨r.length ▸ z, its, n, r, I.kIn a _ e⟩
theorem LO.of {K : PySem.W.Frag} {a : Addr} {vs : List V} (h : Own ρ M H a (.lst vs)) : LO ρ M H K a vs := .inl ⟨_, h, .inl rfl⟩
/-- no cell is a tuple -/
def Cells (ρ : List Addr) (M : Mem) (H : Hp) : Prop := ∀ a, live ρ M a → (∃ xs, H a = some (.lst xs)) ∨ (∃ kvs, H a = some (.dK kvs)) ∨ ∃ C dx fs, H a = some (.ins C dx fs)
theorem Cells.tup (c : Cells ρ M H) {a : Addr} {o : HO} (h : H a = some o) (n : (∀ xs, o ≠ .lst xs) ∧ (∀ k, o ≠ .dK k) ∧ ∀ C dx fs, o ≠ .ins C dx fs) : ¬ live ρ M a := fun l => by
  rcases c a l with ⟨xs, e⟩ | ⟨k, e⟩ | ⟨C, dx, fs, e⟩ <;> rw [h] at e <;> cases e
  · exact n.1 _ rfl
  · exact n.2.1 _ rfl
  · exact n.2.2 _ _ _ rfl
theorem SqT.later {K : PySem.W.Frag} (c : Cells ρ M H) (l : Lat ρ M H ρ' M' H') {a : Addr} {xs : List V} (h : SqT K H a xs) : SqT K H' a xs := by
  obtain (h | ⟨o, h⟩) | h := h
  · exact .inl (.inl (l.own a _ h (c.tup h ⟨fun _ z => (nomatch z), fun _ z => (nomatch z), fun _ _ _ z => (nomatch z)⟩) trivial).1)
  · exact .inl (.inr ⟨o, (l.own a _ h (c.tup h ⟨fun _ z => (nomatch z), fun _ z => (nomatch z), fun _ _ _ z => (nomatch z)⟩) trivial).1⟩)
  · exact .inr h
mutual
theorem RV.later (c : Cells ρ M H) (l : Lat ρ M H ρ' M' H') : ∀ {p : PV} {v : V}, RV g ρ M H p v → RV g ρ' M' H' p v
  | .non, _, h => by unfold RV at h ⊢; exact h
  | .bl _, _, h => by unfold RV at h ⊢; exact h
  | .int _, _, h => by unfold RV at h ⊢; exact h
  | .str _, _, h => by unfold RV at h ⊢; exact h
  | .tup xs, _, h => by
    unfold RV at h ⊢
    obtain ⟨z, a, vs, e, t, r⟩ := h
    exact ⟨z, a, vs, e, SqT.later c l t, RVs.later c l r⟩
  | .lst xs, _, h => by
    unfold RV at h ⊢
    obtain ⟨z, a, vs, e, t, r⟩ := h
    exact ⟨z, a, vs, e, t.later l, RVs.later c l r⟩
  | .dic kvs, _, h => by
    unfold RV at h ⊢
    obtain ⟨z, a, vs, e, t, r⟩ := h
    exact ⟨z, a, vs, e, t.later l, RVd.later c l r⟩
  | .ins cl fs, _, h => by
    unfold RV at h ⊢
    obtain ⟨a, dx, vs, e, t, r⟩ := h
    exact ⟨a, dx, vs, e, t.later l trivial, RVf.later c l r⟩
  | .exc cl fs, _, h => by
    unfold RV at h ⊢
    obtain ⟨a, e, n, h⟩ := h
    rcases h with ⟨z, h⟩ | ⟨dx, fs', h, hd, nd, r⟩
    · exact ⟨a, e, (l.own a _ h n trivial).2, .inl ⟨z, (l.own a _ h n trivial).1⟩⟩
    · exact ⟨a, e, (l.own a _ h n trivial).2, .inr ⟨dx, fs', (l.own a _ h n trivial).1, (l.own dx _ hd nd trivial).1, (l.own dx _ hd nd trivial).2, RVf.later c l r⟩⟩
  | .ref i, _, h => by
    unfold RV at h ⊢
    obtain ⟨a, e, r⟩ := h
    exact ⟨a, e, l.ref i a r⟩
  | .cls _, _, h => by unfold RV at h ⊢; exact h
  | .fn _, _, h => by unfold RV at h ⊢; exact h
  | .ty _, _, h => by unfold RV at h ⊢; exact h
  | .lk _ _ _, _, h => by unfold RV at h ⊢; exact ⟨h.1, h.2.later l trivial⟩
theorem RVs.later (c : Cells ρ M H) (l : Lat ρ M H ρ' M' H') : ∀ {p : List PV} {v : List V}, RVs g ρ M H p v → RVs g ρ' M' H' p v
  | [], _, h => by unfold RVs at h ⊢; exact h
  | x :: r, _, h => by
    unfold RVs at h ⊢
    obtain ⟨v, s, e, h1, h2⟩ := h
    exact ⟨v, s, e, RV.later c l h1, RVs.later c l h2⟩
theorem RVd.later (c : Cells ρ M H) (l : Lat ρ M H ρ' M' H') : ∀ {p : List (PV × PV)} {v : List (Key × V)}, RVd g ρ M H p v → RVd g ρ' M' H' p v
  | [], _, h => by unfold RVd at h ⊢; exact h
  | (k, x) :: r, _, h => by
    unfold RVd at h ⊢
    obtain ⟨j, v, s, e, ek, h1, h2⟩ := h
    exact ⟨j, v, s, e, ek, RV.later c l h1, RVd.later c l h2⟩
theorem RVf.later (c : Cells ρ M H) (l : Lat ρ M H ρ' M' H') : ∀ {p : List (Nat × PV)} {v : List (Str × V)}, RVf g ρ M H p v → RVf g ρ' M' H' p v
  | [], _, h => by unfold RVf at h ⊢; exact h
  | (k, x) :: r, _, h => by
    unfold RVf at h ⊢
    obtain ⟨v, s, e, h1, h2⟩ := h
    exact ⟨v, s, e, RV.later c l h1, RVf.later c l h2⟩
end
end

/-! ### the state -/
section
variable (g : Gx) (ρ : List Addr) (M : Mem) (H : Hp)
def CellOk (a : Addr) : Cell → Prop
  | .lst xs => xs.length ≤ sizeLine ∧ ∃ vs, H a = some (.lst vs) ∧ RVs g ρ M H xs vs
  | .dic kvs => kvs.length ≤ sizeLine ∧ ∃ kws, H a = some (.dK kws) ∧ RVd g ρ M H kvs kws
  | .ins c fs => ∃ dx fs', H a = some (.ins (g.ca c) dx fs') ∧ RVf g ρ M H fs fs'
  | .dead => True
structure Rl (ε : Env) (T : List (PV × V)) (σ : SS) : Prop where
  len : ρ.length = M.length
  elen : ε.length = σ.length
  env : ∀ (i : Nat) (p : PV), ε[i]? = some (some p) → ∃ v, σ[i]? = some (some v) ∧ RV g ρ M H p v
  tmp : ∀ q ∈ T, RV g ρ M H q.1 q.2
  cel : ∀ (i : Nat) (a : Addr) (c : Cell), ρ[i]? = some a → M[i]? = some c → CellOk g ρ M H a c
  inj : ∀ (i j : Nat) (a : Addr) (c d : Cell), ρ[i]? = some a → ρ[j]? = some a → M[i]? = some c → M[j]? = some d → c ≠ .dead → d ≠ .dead → i = j
end
section
variable {g : Gx} {ρ ρ' : List Addr} {M M' : Mem} {H H' : Hp} {ε : Env} {T : List (PV × V)} {σ : SS}
theorem Rl.cells (R : Rl g ρ M H ε T σ) : Cells ρ M H := fun a ⟨i, c, h1, h2, h3⟩ => by
  have h := R.cel i a c h1 h2
  cases c with
  | lst xs => obtain ⟨_, vs, e, _⟩ := h; exact .inl ⟨vs, e⟩
  | dic kvs => obtain ⟨_, vs, e, _⟩ := h; exact .inr (.inl ⟨vs, e⟩)
  | ins c fs => obtain ⟨dx, fs', e, _⟩ := h; exact .inr (.inr ⟨_, dx, fs', e⟩)
  | dead => exact absurd rfl h3
theorem Rl.live_some (R : Rl g ρ M H ε T σ) {a : Addr} (l : live ρ M a) : H a ≠ none := fun z => by
  rcases R.cells a l with ⟨xs, e⟩ | ⟨k, e⟩ | ⟨C, dx, fs, e⟩ <;> rw [z] at e <;> cases e
/-- the later state: cells are told anew -/
theorem Rl.step (R : Rl g ρ M H ε T σ) (l : Lat ρ M H ρ' M' H') (len : ρ'.length = M'.length)
    (cel : ∀ (i : Nat) (a : Addr) (c : Cell), ρ'[i]? = some a → M'[i]? = some c → CellOk g ρ' M' H' a c)
    (inj : ∀ (i j : Nat) (a : Addr) (c d : Cell), ρ'[i]? = some a → ρ'[j]? = some a → M'[i]? = some c → M'[j]? = some d → c ≠ .dead → d ≠ .dead → i = j) : Rl g ρ' M' H' ε T σ :=
  ⟨len, R.elen, fun i p h => let ⟨v, e, r⟩ := R.env i p h; ⟨v, e, RV.later R.cells l r⟩, fun q hq => RV.later R.cells l (R.tmp q hq), cel, inj⟩
/-- an unchanged cell is told as before -/
theorem CellOk.later (C : Cells ρ M H) (l : Lat ρ M H ρ' M' H') {a : Addr} {c : Cell} (e : H' a = H a) (h : CellOk g ρ M H a c) : CellOk g ρ' M' H' a c := by
  cases c with
  | lst xs => obtain ⟨z, vs, h1, h2⟩ := h; exact ⟨z, vs, e.trans h1, RVs.later C l h2⟩
  | dic kvs => obtain ⟨z, vs, h1, h2⟩ := h; exact ⟨z, vs, e.trans h1, RVd.later C l h2⟩
  | ins c fs => obtain ⟨dx, fs', h1, h2⟩ := h; exact ⟨dx, fs', e.trans h1, RVf.later C l h2⟩
  | dead => trivial
theorem Lat.alloc {p : Addr} {o : HO} (hp : H p = none) : Lat ρ M H ρ M (upd H p o) :=
  .of (fun _ _ h => h) fun a u h n => ⟨by rw [upd_ne (ne_of_none h hp)]; exact h, n⟩
/-- something new is tracked, no cell -/
theorem Rl.alloc (R : Rl g ρ M H ε T σ) {p : Addr} {o : HO} (hp : H p = none) : Rl g ρ M (upd H p o) ε T σ := by
  have nl : ∀ (i : Nat) (a : Addr) (c : Cell), ρ[i]? = some a → M[i]? = some c → c ≠ .dead → a ≠ p := fun i a c h1 h2 h3 e => by
    subst e
    exact R.live_some ⟨i, c, h1, h2, h3⟩ hp
  refine R.step (Lat.alloc hp) R.len (fun i a c h1 h2 => ?_) R.inj
  by_cases hc : c = .dead
  · subst hc; trivial
  · exact (R.cel i a c h1 h2).later R.cells (Lat.alloc hp) (upd_ne (nl i a c h1 h2 hc))
theorem live_app {ρ : List Addr} {M : Mem} (hl : ρ.length = M.length) {p : Addr} {c : Cell} {a : Addr} (h : live (ρ ++ [p]) (M ++ [c]) a) : live ρ M a ∨ a = p := by
  obtain ⟨i, d, h1, h2, h3⟩ := h
  by_cases hi : i < ρ.length
  · rw [List.getElem?_append_left hi] at h1
    rw [List.getElem?_append_left (hl ▸ hi)] at h2
    exact .inl ⟨i, d, h1, h2, h3⟩
  · rw [List.getElem?_append_right (by omega)] at h1
    cases q : i - ρ.length with
    | zero => rw [q] at h1; exact .inr (Option.some.inj h1).symm
    | succ n => rw [q] at h1; simp at h1
theorem app_cases {ρ : List Addr} {M : Mem} (hl : ρ.length = M.length) {p : Addr} {c : Cell} {i : Nat} {a : Addr} {d : Cell} (h1 : (ρ ++ [p])[i]? = some a) (h2 : (M ++ [c])[i]? = some d) :
    (ρ[i]? = some a ∧ M[i]? = some d) ∨ (i = ρ.length ∧ a = p ∧ d = c) := by
  by_cases hi : i < ρ.length
  · rw [List.getElem?_append_left hi] at h1
    rw [List.getElem?_append_left (hl ▸ hi)] at h2
    exact .inl ⟨h1, h2⟩
  · rw [List.getElem?_append_right (by omega)] at h1 h2
    cases q : i - ρ.length with
    | zero =>
      rw [q] at h1
      rw [← hl, q] at h2
      exact .inr ⟨by omega, (Option.some.inj h1).symm, (Option.some.inj h2).symm⟩
    | succ n => rw [q] at h1; simp at h1
theorem Lat.new (hl : ρ.length = M.length) {p : Addr} {o : HO} {c : Cell} (hp : H p = none) : Lat ρ M H (ρ ++ [p]) (M ++ [c]) (upd H p o) :=
  .of (fun i a h => by rw [List.getElem?_append_left (List.getElem?_eq_some_iff.mp h).1]; exact h)
   fun a u h n => ⟨by rw [upd_ne (ne_of_none h hp)]; exact h, fun l => (live_app hl l).elim n fun e => by rw [e, hp] at h; cases h⟩
/-- a new cell -/
theorem Rl.new (R : Rl g ρ M H ε T σ) {p : Addr} {o : HO} {c : Cell} (hp : H p = none) (ok : CellOk g (ρ ++ [p]) (M ++ [c]) (upd H p o) p c) : Rl g (ρ ++ [p]) (M ++ [c]) (upd H p o) ε T σ := by
  have nl : ∀ (i : Nat) (a : Addr) (c : Cell), ρ[i]? = some a → M[i]? = some c → c ≠ .dead → a ≠ p := fun i a c h1 h2 h3 e => by
    subst e
    exact R.live_some ⟨i, c, h1, h2, h3⟩ hp
  have lt : ∀ (i : Nat) (a : Addr), ρ[i]? = some a → i < ρ.length := fun i a h => (List.getElem?_eq_some_iff.mp h).1
  refine R.step (Lat.new R.len hp) (by simp [R.len]) (fun i a d h1 h2 => ?_) (fun i j a d e h1 h2 h3 h4 hd he => ?_)
  · rcases app_cases R.len h1 h2 with ⟨k1, k2⟩ | ⟨rfl, rfl, rfl⟩
    · by_cases hc : d = .dead
      · subst hc; trivial
      · exact (R.cel i a d k1 k2).later R.cells (Lat.new R.len hp) (upd_ne (nl i a d k1 k2 hc))
    · exact ok
  · rcases app_cases R.len h1 h3 with ⟨k1, k2⟩ | ⟨rfl, rfl, rfl⟩
    · rcases app_cases R.len h2 h4 with ⟨k3, k4⟩ | ⟨rfl, rfl, rfl⟩
      · exact R.inj i j a d e k1 k3 k2 k4 hd he
      · exact absurd rfl (nl i _ d k1 k2 hd)
    · rcases app_cases R.len h2 h4 with ⟨k3, k4⟩ | ⟨rfl, _, rfl⟩
      · exact absurd rfl (nl j _ e k3 k4 he)
      · rfl
/-- RV of the elements, carried over a new cell -/
theorem Rl.push (R : Rl g ρ M H ε T σ) {p : PV} {v : V} (h : RV g ρ M H p v) : Rl g ρ M H ε ((p, v) :: T) σ :=
  ⟨R.len, R.elen, R.env, fun q hq => by
    obtain rfl | hq := List.mem_cons.mp hq
    · exact h
    · exact R.tmp q hq, R.cel, R.inj⟩
theorem Rl.pushs (R : Rl g ρ M H ε T σ) {ps : List (PV × V)} (h : ∀ q ∈ ps, RV g ρ M H q.1 q.2) : Rl g ρ M H ε (ps ++ T) σ :=
  ⟨R.len, R.elen, R.env, fun q hq => by
    obtain hq | hq := List.mem_append.mp hq
    · exact h q hq
    · exact R.tmp q hq, R.cel, R.inj⟩
theorem Rl.tail {q : PV × V} (R : Rl g ρ M H ε (q :: T) σ) : Rl g ρ M H ε T σ := ⟨R.len, R.elen, R.env, fun q hq => R.tmp q (List.mem_cons_of_mem _ hq), R.cel, R.inj⟩
theorem Rl.weak {T' : List (PV × V)} (R : Rl g ρ M H ε T σ) (h : ∀ q ∈ T', q ∈ T) : Rl g ρ M H ε T' σ := ⟨R.len, R.elen, R.env, fun q hq => R.tmp q (h q hq), R.cel, R.inj⟩
theorem Rl.head {q : PV × V} (R : Rl g ρ M H ε (q :: T) σ) : RV g ρ M H q.1 q.2 := R.tmp q List.mem_cons_self
/-- the slots changed -/
theorem Rl.envs (R : Rl g ρ M H ε T σ) {ε' : Env} {σ' : SS} (l : ε'.length = σ'.length) (h : ∀ (i : Nat) (p : PV), ε'[i]? = some (some p) → ∃ v, σ'[i]? = some (some v) ∧ RV g ρ M H p v) : Rl g ρ M H ε' T σ' :=
  ⟨R.len, l, h, R.tmp, R.cel, R.inj⟩
theorem Rl.set (R : Rl g ρ M H ε T σ) {i : Nat} {p : PV} {v : V} (h : RV g ρ M H p v) : Rl g ρ M H (ε.set i (some p)) T (σ.set i (some v)) := by
  refine R.envs (by simp [R.elen]) fun j q e => ?_
  by_cases hj : i = j
  · subst hj
    by_cases hi : i < ε.length
    · rw [List.getElem?_set_self hi] at e
      cases e
      exact ⟨v, List.getElem?_set_self (R.elen ▸ hi), h⟩
    · rw [List.getElem?_eq_none (by simpa using hi)] at e; cases e
  · rw [List.getElem?_set_ne hj] at e ⊢
    exact R.env j q e
theorem Rl.unset (R : Rl g ρ M H ε T σ) {i : Nat} : Rl g ρ M H (ε.set i none) T (σ.set i none) := by
  refine R.envs (by simp [R.elen]) fun j q e => ?_
  by_cases hj : i = j
  · subst hj
    by_cases hi : i < ε.length
    · rw [List.getElem?_set_self hi] at e; cases e
    · rw [List.getElem?_eq_none (by simpa using hi)] at e; cases e
  · rw [List.getElem?_set_ne hj] at e ⊢
    exact R.env j q e
theorem Rl.wipe (R : Rl g ρ M H ε T σ) : ∀ own : List Nat, Rl g ρ M H (wipeE ε own) T (wipe σ own)
  | [] => R
  | v :: vs => by
    unfold wipeE L2.wipe
    exact (R.wipe vs).unset
/-- other slots of the same values: all slots of ε are told by σ' as well -/
theorem Rl.seq (R : Rl g ρ M H ε T σ) {σ' : SS} (l : σ'.length = σ.length) (h : ∀ (i : Nat) (v : V), σ[i]? = some (some v) → (∃ p, ε[i]? = some (some p)) → σ'[i]? = some (some v)) : Rl g ρ M H ε T σ' :=
  R.envs (R.elen.trans l.symm) fun i p e => let ⟨v, h1, h2⟩ := R.env i p e; ⟨v, h i v h1 ⟨p, e⟩, h2⟩

theorem set_cases {M : Mem} {i j : Nat} {c d : Cell} (h : (M.set i c)[j]? = some d) : (j = i ∧ d = c) ∨ (j ≠ i ∧ M[j]? = some d) := by
  by_cases e : i = j
  · subst e
    by_cases hi : i < M.length
    · rw [List.getElem?_set_self hi] at h
      exact .inl ⟨rfl, (Option.some.inj h).symm⟩
    · rw [List.getElem?_eq_none (by simpa using hi)] at h; cases h
  · rw [List.getElem?_set_ne e] at h
    exact .inr ⟨fun q => e q.symm, h⟩
theorem live_set {ρ : List Addr} {M : Mem} {i : Nat} {c : Cell} {a b : Addr} (hi : ρ[i]? = some a) (h : live ρ (M.set i c) b) : live ρ M b ∨ (b = a ∧ c ≠ .dead) := by
  obtain ⟨j, d, h1, h2, h3⟩ := h
  rcases set_cases h2 with ⟨rfl, rfl⟩ | ⟨hj, h2⟩
  · rw [hi] at h1
    exact .inr ⟨(Option.some.inj h1).symm, h3⟩
  · exact .inl ⟨j, d, h1, h2, h3⟩
/-- a living cell changes (o: its new object; c' dead: frozen) -/
theorem Lat.put {i : Nat} {c c' : Cell} {a : Addr} {o : HO} (hi : ρ[i]? = some a) (hc : M[i]? = some c) (ha : c ≠ .dead) : Lat ρ M H ρ (M.set i c') (upd H a o) :=
  .of (fun _ _ h => h) fun b u h n => ⟨by
    have : b ≠ a := fun e => n ⟨i, c, e ▸ hi, hc, ha⟩
    rw [upd_ne this]; exact h, fun l => (live_set hi l).elim n fun ⟨e, _⟩ => n ⟨i, c, e ▸ hi, hc, ha⟩⟩
theorem Rl.put (R : Rl g ρ M H ε T σ) {i : Nat} {c c' : Cell} {a : Addr} {o : HO} (hi : ρ[i]? = some a) (hc : M[i]? = some c) (ha : c ≠ .dead)
    (ok : CellOk g ρ (M.set i c') (upd H a o) a c') : Rl g ρ (M.set i c') (upd H a o) ε T σ := by
  refine R.step (Lat.put hi hc ha) (by simp [R.len]) (fun j b d h1 h2 => ?_) (fun j k b d e h1 h2 h3 h4 hd he => ?_)
  · rcases set_cases h2 with ⟨rfl, rfl⟩ | ⟨hj, h2⟩
    · rw [hi] at h1
      cases h1
      exact ok
    · by_cases hd : d = .dead
      · subst hd; trivial
      · refine (R.cel j b d h1 h2).later R.cells (Lat.put hi hc ha) (upd_ne fun e => hj ?_)
        subst e
        exact R.inj j i b d c h1 hi h2 hc hd ha
  · have al : ∀ (j : Nat) (d : Cell), (M.set i c')[j]? = some d → d ≠ .dead → ∃ d', M[j]? = some d' ∧ d' ≠ .dead := fun j d h hd => by
      rcases set_cases h with ⟨rfl, rfl⟩ | ⟨hj, h⟩
      · exact ⟨c, hc, ha⟩
      · exact ⟨d, h, hd⟩
    obtain ⟨d', k1, k2⟩ := al j d h3 hd
    obtain ⟨e', k3, k4⟩ := al k e h4 he
    exact R.inj j k b d' e' h1 h2 k1 k3 k2 k4
/-- a cell is frozen: its object stands, as a tree's -/
theorem Lat.dead {i : Nat} {a : Addr} (hi : ρ[i]? = some a) : Lat ρ M H ρ (M.set i .dead) H :=
  .of (fun _ _ h => h) fun b u h n => ⟨h, fun l => (live_set hi l).elim n fun ⟨_, z⟩ => z rfl⟩
theorem Rl.dead (R : Rl g ρ M H ε T σ) {i : Nat} {a : Addr} (hi : ρ[i]? = some a) : Rl g ρ (M.set i .dead) H ε T σ := by
  refine R.step (Lat.dead hi) (by simp [R.len]) (fun j b d h1 h2 => ?_) (fun j k b d e h1 h2 h3 h4 hd he => ?_)
  · rcases set_cases h2 with ⟨rfl, rfl⟩ | ⟨hj, h2⟩
    · trivial
    · exact (R.cel j b d h1 h2).later R.cells (Lat.dead hi) rfl
  · rcases set_cases h3 with ⟨rfl, rfl⟩ | ⟨hj, h3⟩
    · exact absurd rfl hd
    · rcases set_cases h4 with ⟨rfl, rfl⟩ | ⟨hk, h4⟩
      · exact absurd rfl he
      · exact R.inj j k b d e h1 h2 h3 h4 hd he
theorem dead_not_live (R : Rl g ρ M H ε T σ) {i : Nat} {a : Addr} {c : Cell} (hi : ρ[i]? = some a) (hc : M[i]? = some c) (ha : c ≠ .dead) : ¬ live ρ (M.set i .dead) a := fun ⟨j, d, h1, h2, h3⟩ => by
  rcases set_cases h2 with ⟨rfl, rfl⟩ | ⟨hj, h2⟩
  · exact h3 rfl
  · exact hj (R.inj j i a d c h1 hi h2 hc h3 ha)
/-- a dict that is no cell is locked -/
theorem Lat.lock {a : Addr} {kws : List (Key × V)} {z : Obj} (h : H a = some (.dK kws)) (n : ¬ live ρ M a) : Lat ρ M H ρ M (upd H a (.frz z (.dK kws))) :=
  ⟨fun _ _ h => h, fun b o hb nb => by
    by_cases e : b = a
    · subst e
      rw [h] at hb
      cases hb
      exact ⟨_, upd_same, nb, .inr ⟨kws, z, rfl, rfl⟩⟩
    · exact ⟨o, by rw [upd_ne e]; exact hb, nb, .inl rfl⟩⟩
theorem Rl.lock (R : Rl g ρ M H ε T σ) {a : Addr} {kws : List (Key × V)} {z : Obj} (h : H a = some (.dK kws)) (n : ¬ live ρ M a) : Rl g ρ M (upd H a (.frz z (.dK kws))) ε T σ := by
  refine R.step (Lat.lock h n) R.len (fun i b c h1 h2 => ?_) R.inj
  by_cases hc : c = .dead
  · subst hc; trivial
  · exact (R.cel i b c h1 h2).later R.cells (Lat.lock h n) (upd_ne fun e => n ⟨i, c, e ▸ h1, h2, hc⟩)
end
end WT
set_option maxRecDepth 100000
set_option autoImplicit false
/-! Soundness, 1: readings, names, displays, operators. -/
namespace WT
open PySem PySem.Spec PyProof.Rows L2

/-! ### readings -/
/-- an exception e, in the air: its class and dict -/
def RX (g : Gx) (ρ : List Addr) (M : Mem) (H : Hp) (e : PV) (cls : Value) (d : Option Addr) : Prop :=
  ∃ c fs, e = .exc c fs ∧ cls = .ref (g.ca c) ∧ ((fs = [] ∧ d = none) ∨ ∃ dx fs', d = some dx ∧ H dx = some (.xd fs') ∧ ¬ live ρ M dx ∧ RVf g ρ M H fs fs')
/-- an outcome r's reading; A: what is said of its value -/
def resW {α : Type} (g : Gx) (W : WX) (r : Res α) (ε : Env) (T : List (PV × V)) (σ : SS) (A : α → List Addr → Mem → Hp → Prop) : Prop := match r with
  | .ok p M => ∀ ρ H, Rl g ρ M H ε T σ → A p ρ M H
  | .err e M => ∀ ρ H cls d, Rl g ρ M H ε T σ → RX g ρ M H e cls d → W cls d σ H
  | .stuck => False
def tR (g : Gx) (W : WX) (f : Env → Mem → Res PV) : TE := fun σ H Q => ∃ ρ M ε T, Rl g ρ M H ε T σ ∧ resW g W (f ε M) ε T σ fun p ρ M H => ∀ v, RV g ρ M H p v → Q v H
def tRs (g : Gx) (W : WX) (f : Env → Mem → Res (List PV)) : TA := fun σ H Q => ∃ ρ M ε T, Rl g ρ M H ε T σ ∧ resW g W (f ε M) ε T σ fun p ρ M H => ∀ v, RVs g ρ M H p v → Q v H
def tRt (g : Gx) (W : WX) (f : Env → Mem → Res Bool) : TT := fun σ H Q => ∃ ρ M ε T, Rl g ρ M H ε T σ ∧ resW g W (f ε M) ε T σ fun p ρ M H => Q p H
section
variable {g : Gx} {W : WX} {α β : Type} {r : Res α} {ε : Env} {T : List (PV × V)} {σ : SS}
theorem resW.imp {A B : α → List Addr → Mem → Hp → Prop} (h : resW g W r ε T σ A) (k : ∀ p ρ M H, Rl g ρ M H ε T σ → A p ρ M H → B p ρ M H) : resW g W r ε T σ B := by
  cases r with
  | ok p M => exact fun ρ H R => k p ρ M H R (h ρ H R)
  | err e M => exact h
  | stuck => exact h
/-- more is kept -/
theorem resW.more {A : α → List Addr → Mem → Hp → Prop} {T' : List (PV × V)} (h : resW g W r ε T σ A) (k : ∀ q ∈ T, q ∈ T') : resW g W r ε T' σ A := by
  cases r with
  | ok p M => exact fun ρ H R => h ρ H (R.weak k)
  | err e M => exact fun ρ H cls d R => h ρ H cls d (R.weak k)
  | stuck => exact h
theorem resW.bind {k : α → Mem → Res β} {A : β → List Addr → Mem → Hp → Prop} (h : resW g W (r.bind k) ε T σ A) : resW g W r ε T σ fun p ρ M H => resW g W (k p M) ε T σ A := by
  cases r with
  | ok p M => exact fun ρ H R => h
  | err e M => exact h
  | stuck => exact h
/-- the first part of a row -/
theorem tR.of {k : PV → Mem → Res β} {f : Env → Mem → Res PV} {ρ : List Addr} {M : Mem} {H : Hp} {Q : VK} {A : β → List Addr → Mem → Hp → Prop} (R : Rl g ρ M H ε T σ) (h : resW g W ((f ε M).bind k) ε T σ A)
    (hk : ∀ p ρ M H v, Rl g ρ M H ε ((p, v) :: T) σ → resW g W (k p M) ε T σ A → Q v H) : tR g W f σ H Q :=
  ⟨ρ, M, ε, T, R, h.bind.imp fun p ρ M H R' h' v rv => hk p ρ M H v (R'.push rv) h'⟩
theorem tR.of1 {f : Env → Mem → Res PV} {ρ : List Addr} {M : Mem} {H : Hp} {Q : VK} (R : Rl g ρ M H ε T σ) (h : resW g W (f ε M) ε T σ fun p ρ M H => ∀ v, RV g ρ M H p v → Q v H) : tR g W f σ H Q := ⟨ρ, M, ε, T, R, h⟩
theorem tRs.of {k : List PV → Mem → Res β} {f : Env → Mem → Res (List PV)} {ρ : List Addr} {M : Mem} {H : Hp} {Q : List V → Hp → Prop} {A : β → List Addr → Mem → Hp → Prop} (R : Rl g ρ M H ε T σ) (h : resW g W ((f ε M).bind k) ε T σ A)
    (hk : ∀ ps ρ M H vs, Rl g ρ M H ε T σ → RVs g ρ M H ps vs → resW g W (k ps M) ε T σ A → Q vs H) : tRs g W f σ H Q :=
  ⟨ρ, M, ε, T, R, h.bind.imp fun p ρ M H R' h' vs rv => hk p ρ M H vs R' rv h'⟩
theorem tRt.of {k : Bool → Mem → Res β} {f : Env → Mem → Res Bool} {ρ : List Addr} {M : Mem} {H : Hp} {Q : Bool → Hp → Prop} {A : β → List Addr → Mem → Hp → Prop} (R : Rl g ρ M H ε T σ) (h : resW g W ((f ε M).bind k) ε T σ A)
    (hk : ∀ b ρ M H, Rl g ρ M H ε T σ → resW g W (k b M) ε T σ A → Q b H) : tRt g W f σ H Q :=
  ⟨ρ, M, ε, T, R, h.bind.imp fun p ρ M H R' h' => hk p ρ M H R' h'⟩
end

/-! ### relations of lists -/
section
variable {g : Gx} {ρ : List Addr} {M : Mem} {H : Hp}
theorem RVs.length : ∀ {ps : List PV} {vs : List V}, RVs g ρ M H ps vs → ps.length = vs.length
  | [], _, h => by unfold RVs at h; subst h; rfl
  | x :: r, _, h => by
    unfold RVs at h
    obtain ⟨v, s, rfl, _, h2⟩ := h
    simp [RVs.length h2]
theorem RVs.get : ∀ {ps : List PV} {vs : List V} {i : Nat} {p : PV}, RVs g ρ M H ps vs → ps[i]? = some p → ∃ v, vs[i]? = some v ∧ RV g ρ M H p v
  | [], _, _, _, _, e => by simp at e
  | x :: r, _, 0, p, h, e => by
    unfold RVs at h
    obtain ⟨v, s, rfl, h1, _⟩ := h
    simp at e
    subst e
    exact ⟨v, rfl, h1⟩
  | x :: r, _, i + 1, p, h, e => by
    unfold RVs at h
    obtain ⟨v, s, rfl, _, h2⟩ := h
    obtain ⟨u, h3, h4⟩ := RVs.get (i := i) h2 (by simpa using e)
    exact ⟨u, by simpa using h3, h4⟩
theorem RVs.append : ∀ {ps qs : List PV} {vs us : List V}, RVs g ρ M H ps vs → RVs g ρ M H qs us → RVs g ρ M H (ps ++ qs) (vs ++ us)
  | [], _, _, _, h, k => by unfold RVs at h; subst h; exact k
  | x :: r, _, _, _, h, k => by
    unfold RVs at h
    obtain ⟨v, s, rfl, h1, h2⟩ := h
    show RVs g ρ M H (x :: (r ++ _)) (v :: (s ++ _))
    unfold RVs
    exact ⟨v, _, rfl, h1, RVs.append h2 k⟩
theorem RVs.take : ∀ {ps : List PV} {vs : List V} (n : Nat), RVs g ρ M H ps vs → RVs g ρ M H (ps.take n) (vs.take n)
  | _, _, 0, _ => by simp [RVs]
  | [], _, n + 1, h => by unfold RVs at h; subst h; simp [RVs]
  | x :: r, _, n + 1, h => by
    unfold RVs at h
    obtain ⟨v, s, rfl, h1, h2⟩ := h
    show RVs g ρ M H (x :: r.take n) (v :: s.take n)
    unfold RVs
    exact ⟨v, _, rfl, h1, RVs.take n h2⟩
theorem RVs.drop : ∀ {ps : List PV} {vs : List V} (n : Nat), RVs g ρ M H ps vs → RVs g ρ M H (ps.drop n) (vs.drop n)
  | _, _, 0, h => by simpa using h
  | [], _, n + 1, h => by unfold RVs at h; subst h; simp [RVs]
  | x :: r, _, n + 1, h => by
    unfold RVs at h
    obtain ⟨v, s, rfl, h1, h2⟩ := h
    simpa using RVs.drop n h2
theorem RVs.one {p : PV} {v : V} (h : RV g ρ M H p v) : RVs g ρ M H [p] [v] := by unfold RVs; exact ⟨v, [], rfl, h, by unfold RVs; rfl⟩
theorem RVs.reverse : ∀ {ps : List PV} {vs : List V}, RVs g ρ M H ps vs → RVs g ρ M H ps.reverse vs.reverse
  | [], _, h => by unfold RVs at h; subst h; simp [RVs]
  | x :: r, _, h => by
    unfold RVs at h
    obtain ⟨v, s, rfl, h1, h2⟩ := h
    simp only [List.reverse_cons]
    exact (RVs.reverse h2).append (.one h1)
theorem RVs.cut {ps : List PV} {vs : List V} (lo hi : Option Int) (h : RVs g ρ M H ps vs) : RVs g ρ M H (cut ps lo hi) (cutV vs lo hi) := by
  unfold WT.cut cutV
  rw [h.length]
  exact (h.drop _).take _
theorem RVs.set : ∀ {ps : List PV} {vs : List V} (i : Nat) {p : PV} {v : V}, RVs g ρ M H ps vs → RV g ρ M H p v → RVs g ρ M H (ps.set i p) (vs.set i v)
  | [], _, _, _, _, h, _ => by unfold RVs at h; subst h; simp [RVs]
  | x :: r, _, 0, p, v, h, k => by
    unfold RVs at h
    obtain ⟨u, s, rfl, h1, h2⟩ := h
    show RVs g ρ M H (p :: r) (v :: s)
    unfold RVs
    exact ⟨v, s, rfl, k, h2⟩
  | x :: r, _, i + 1, p, v, h, k => by
    unfold RVs at h
    obtain ⟨u, s, rfl, h1, h2⟩ := h
    show RVs g ρ M H (x :: r.set i p) (u :: s.set i v)
    unfold RVs
    exact ⟨u, _, rfl, h1, RVs.set i h2 k⟩
theorem RVs.of {ps : List PV} {vs : List V} (hl : ps.length = vs.length) (h : ∀ (i : Nat) p v, ps[i]? = some p → vs[i]? = some v → RV g ρ M H p v) : RVs g ρ M H ps vs := by
  induction ps generalizing vs with
  | nil => cases vs with
    | nil => unfold RVs; rfl
    | cons v s => simp at hl
  | cons x r ih => cases vs with
    | nil => simp at hl
    | cons v s =>
      unfold RVs
      exact ⟨v, s, rfl, h 0 x v rfl rfl, ih (by simpa using hl) fun i p u h1 h2 => h (i + 1) p u (by simpa using h1) (by simpa using h2)⟩
/-- a list's object -/
theorem RV.listAt {xs : List PV} {v : V} (h : RV g ρ M H (.lst xs) v) : xs.length ≤ sizeLine ∧ ∃ a vs, v = .ref a ∧ LQ g.K H a vs ∧ RVs g ρ M H xs vs := by
  unfold RV at h
  obtain ⟨z, a, vs, e, h, r⟩ := h
  exact ⟨z, a, vs, e, h.q, r⟩
theorem RV.tupAt {xs : List PV} {v : V} (h : RV g ρ M H (.tup xs) v) : xs.length ≤ sizeLine ∧ ∃ a vs, v = .ref a ∧ SqT g.K H a vs ∧ RVs g ρ M H xs vs := by
  unfold RV at h; exact h
end
section
variable {g : Gx} {ρ : List Addr} {M : Mem} {H : Hp} {ε : Env} {T : List (PV × V)} {σ : SS}
/-- what is read at a value, list or cell -/
theorem Rl.listAt (R : Rl g ρ M H ε T σ) {p : PV} {v : V} (h : RV g ρ M H p v) {xs : List PV} (e : rd M p = .lst xs) : xs.length ≤ sizeLine ∧ ∃ a vs, v = .ref a ∧ LQ g.K H a vs ∧ RVs g ρ M H xs vs := by
  cases p with
  | lst ys =>
    have : PV.lst ys = .lst xs := e
    cases this
    exact h.listAt
  | ref i =>
    unfold RV at h
    obtain ⟨a, rfl, hi⟩ := h
    have e' : (match M[i]? with
      | some (.lst xs) => PV.lst xs
      | some (.dic kvs) => .dic kvs
      | some (.ins c fs) => .ins c fs
      | _ => .ref i) = .lst xs := e
    cases hc : M[i]? with
    | none => rw [hc] at e'; cases e'
    | some c =>
      rw [hc] at e'
      cases c with
      | lst ys =>
        cases e'
        obtain ⟨z, vs, h1, h2⟩ := R.cel i a _ hi hc
        exact ⟨z, a, vs, rfl, .inl (.inl h1), h2⟩
      | _ => cases e'
  | _ => cases e
theorem Rl.tupAt (R : Rl g ρ M H ε T σ) {p : PV} {v : V} (h : RV g ρ M H p v) {xs : List PV} (e : rd M p = .tup xs) : xs.length ≤ sizeLine ∧ ∃ a vs, v = .ref a ∧ SqT g.K H a vs ∧ RVs g ρ M H xs vs := by
  cases p with
  | tup ys =>
    have : PV.tup ys = .tup xs := e
    cases this
    exact h.tupAt
  | ref i =>
    have e' : (match M[i]? with
      | some (.lst xs) => PV.lst xs
      | some (.dic kvs) => .dic kvs
      | some (.ins c fs) => .ins c fs
      | _ => .ref i) = .tup xs := e
    cases hc : M[i]? with
    | none => rw [hc] at e'; cases e'
    | some c => rw [hc] at e'; cases c <;> cases e'
  | _ => cases e
/-- scalars are read as they are -/
theorem rd_scal {p q : PV} (e : rd M p = q) (h : (match q with | .non | .bl _ | .int _ | .str _ | .cls _ | .fn _ | .ty _ | .tup _ | .exc _ _ => true | _ => false) = true) : p = q := by
  cases p with
  | ref i =>
    have e' : (match M[i]? with
      | some (.lst xs) => PV.lst xs
      | some (.dic kvs) => .dic kvs
      | some (.ins c fs) => .ins c fs
      | _ => .ref i) = q := e
    cases hc : M[i]? with
    | none => rw [hc] at e'; subst e'; cases h
    | some c => rw [hc] at e'; cases c <;> (subst e'; cases h)
  | _ => exact e
theorem rd_int {p : PV} {i : Int} (e : rd M p = .int i) : p = .int i := rd_scal e rfl
theorem rd_str {p : PV} {i : Str} (e : rd M p = .str i) : p = .str i := rd_scal e rfl
theorem rd_bl {p : PV} {i : Bool} (e : rd M p = .bl i) : p = .bl i := rd_scal e rfl
theorem rd_non {p : PV} (e : rd M p = .non) : p = .non := rd_scal e rfl
/-- a list is laid: a cell, or a tree -/
theorem mkL_ok {W : WX} {m : Bool} {xs : List PV} {vs : List V} {p : Addr} {Q : VK} (R : Rl g ρ M H ε T σ) (hz : xs.length ≤ sizeLine) (r : RVs g ρ M H xs vs) (hp : H p = none)
    (h : resW g W (mkL m xs M) ε T σ fun q ρ M H => ∀ v, RV g ρ M H q v → Q v H) : Q (.ref p) (upd H p (.lst vs)) := by
  cases m with
  | false =>
    refine h ρ _ (R.alloc hp) (.ref p) ?_
    unfold RV
    exact ⟨hz, p, vs, rfl, .of ⟨upd_same, fun l => (R.live_some l) hp⟩, RVs.later R.cells (Lat.alloc hp) r⟩
  | true =>
    have R' := R.new (c := .lst xs) (o := .lst vs) hp ⟨hz, vs, upd_same, RVs.later R.cells (Lat.new R.len hp) r⟩
    refine h (ρ ++ [p]) _ R' (.ref p) ?_
    unfold RV
    exact ⟨p, rfl, by rw [← R.len]; simp⟩
end
end WT
set_option maxRecDepth 100000
set_option autoImplicit false
/-! Soundness, 2: operators by values. -/
namespace WT
open PySem PySem.Spec PyProof.Rows L2

/-- the context of a body (or of a comprehension's block) -/
structure XOk (g : Gx) (X : Cx) (N : List Str) (sc : Scope) : Prop where
  K : X.K = g.K
  names : X.N = N
  nd : X.N.Nodup
  sc : X.env.scope = sc
  calm : X.calm = true

section
variable {g : Gx} {W : WX} {ρ : List Addr} {M : Mem} {H : Hp} {ε : Env} {T : List (PV × V)} {σ : SS} {X : Cx} {pins : List (Addr × Obj)} {s : Shared} {Q : VK}
theorem RV.int {i : Int} {v : V} (h : RV g ρ M H (.int i) v) : v = .int i := by unfold RV at h; exact h
theorem RV.bl {i : Bool} {v : V} (h : RV g ρ M H (.bl i) v) : v = .bl i := by unfold RV at h; exact h
theorem RV.non {v : V} (h : RV g ρ M H .non v) : v = .non := by unfold RV at h; exact h
theorem RV.str {x : Str} {v : V} (h : RV g ρ M H (.str x) v) : v = .str x ∧ x.length ≤ sizeLine := by unfold RV at h; exact h
theorem RV.ofInt (i : Int) : RV g ρ M H (.int i) (.int i) := by unfold RV; rfl
theorem RV.ofBl (i : Bool) : RV g ρ M H (.bl i) (.bl i) := by unfold RV; rfl
theorem RV.ofNon : RV g ρ M H .non .non := by unfold RV; rfl
theorem RV.ofStr {x : Str} (h : x.length ≤ sizeLine) : RV g ρ M H (.str x) (.str x) := by unfold RV; exact ⟨rfl, h⟩
theorem sline_eq : sline = sizeLine := by rw [sizeLine_eq]; rfl
/-- the outcome is told: an ok with a value of this state -/
theorem resW.ok {α : Type} {p : α} {A : α → List Addr → Mem → Hp → Prop} (h : resW g W (.ok p M) ε T σ A) (R : Rl g ρ M H ε T σ) : A p ρ M H := h ρ H R
theorem guard_ok {c : Bool} {r : Res PV} {A : PV → List Addr → Mem → Hp → Prop} (h : resW g W (WT.guard c r) ε T σ A) : c = true ∧ resW g W r ε T σ A := by
  cases c with
  | true => exact ⟨rfl, h⟩
  | false => exact h.elim
theorem ofOpt_ok {o : Option PV} {A : PV → List Addr → Mem → Hp → Prop} (h : resW g W (ofOpt M o) ε T σ A) : ∃ p, o = some p ∧ resW g W (.ok p M) ε T σ A := by
  cases o with
  | some p => exact ⟨p, rfl, h⟩
  | none => exact h.elim
/-- what an outcome's reading says of the end -/
abbrev EndQ (g : Gx) (Q : VK) : PV → List Addr → Mem → Hp → Prop := fun p ρ M H => ∀ v, RV g ρ M H p v → Q v H

theorem RVs.rep {ρ : List Addr} {M : Mem} {H : Hp} {ps : List PV} {vs : List V} (h : RVs g ρ M H ps vs) : ∀ n : Nat, RVs g ρ M H (List.replicate n ps).flatten (List.replicate n vs).flatten
  | 0 => by unfold RVs; rfl
  | n + 1 => by
    rw [List.replicate_succ, List.replicate_succ, List.flatten_cons, List.flatten_cons]
    exact h.append (RVs.rep h n)
theorem binop_run {op : Operator} {m : Bool} {p q : PV} {x y : V} {v u : Value} (hK : X.K = g.K) (I : Inv X pins σ H s) (rx : RelV x v) (ry : RelV y u) (R : Rl g ρ M H ε T σ) (hp : RV g ρ M H p x) (hq : RV g ρ M H q y)
    (h : resW g W (binop m op p q M) ε T σ (EndQ g Q)) : wpAny (model X.prog X.w) X.A (binaryOp op v u) (EP X pins σ Q) X.xe s := by
  unfold binop at h
  split at h
  · rename_i i j e1 e2
    rw [rd_int e1] at hp
    rw [rd_int e2] at hq
    cases hp.int
    cases hq.int
    exact op_add pins s σ H _ _ v u Q I rx ry ⟨i, j, rfl, rfl, h.ok R _ (.ofInt _)⟩
  · rename_i i j e1 e2
    rw [rd_int e1] at hp
    rw [rd_int e2] at hq
    cases hp.int
    cases hq.int
    exact op_sub pins s σ H _ _ v u Q I rx ry ⟨i, j, rfl, rfl, h.ok R _ (.ofInt _)⟩
  · rename_i i j e1 e2
    rw [rd_int e1] at hp
    rw [rd_int e2] at hq
    cases hp.int
    cases hq.int
    obtain ⟨c, h⟩ := guard_ok h
    exact op_mulW pins s σ H _ _ v u Q I rx ry ⟨i, j, rfl, rfl, (show i.natAbs.log2 + j.natAbs.log2 < 1000000 from of_decide_eq_true c), h.ok R _ (.ofInt _)⟩
  · rename_i i j e1 e2
    rw [rd_int e1] at hp
    rw [rd_int e2] at hq
    cases hp.int
    cases hq.int
    obtain ⟨c, h⟩ := guard_ok h
    unfold divOk at c
    rw [Bool.and_eq_true] at c
    exact op_fdivW pins s σ H _ _ v u Q I rx ry ⟨i, j, rfl, rfl, ⟨of_decide_eq_true c.1, of_decide_eq_true c.2⟩, h.ok R _ (.ofInt _)⟩
  · rename_i i j e1 e2
    rw [rd_int e1] at hp
    rw [rd_int e2] at hq
    cases hp.int
    cases hq.int
    obtain ⟨c, h⟩ := guard_ok h
    exact op_mod pins s σ H _ _ v u Q I rx ry ⟨i, j, rfl, rfl, of_decide_eq_true c, h.ok R _ (.ofInt _)⟩
  · rename_i i j e1 e2
    rw [rd_int e1] at hp
    rw [rd_int e2] at hq
    cases hp.int
    cases hq.int
    obtain ⟨c, h⟩ := guard_ok h
    unfold powOk at c
    rw [Bool.and_eq_true] at c
    obtain ⟨t, rfl⟩ := rx
    obtain ⟨t', rfl⟩ := ry
    have h1 : (0 : Int) ≤ j := of_decide_eq_true c.1
    have h2 : ((i.natAbs.log2 : Int) + 1) * j ≤ 134217728 := of_decide_eq_true c.2
    refine pow_int h1 ?_ ⟨.int (i ^ j.toNat), H, I.tok _, ⟨_, rfl⟩, h.ok R _ (.ofInt _)⟩
    have hb : (Builtin.Int.intBits i : Int) ≤ (i.natAbs.log2 : Int) + 1 := by
      unfold Builtin.Int.intBits
      split <;> omega
    have : (Builtin.Int.intBits i : Int) * j ≤ ((i.natAbs.log2 : Int) + 1) * j := Int.mul_le_mul_of_nonneg_right hb h1
    have e : (2 : Int) ^ 27 = 134217728 := by decide
    rw [e]
    omega
  · rename_i a b e1 e2
    rw [rd_str e1] at hp
    rw [rd_str e2] at hq
    obtain ⟨rfl, _⟩ := hp.str
    obtain ⟨rfl, _⟩ := hq.str
    obtain ⟨c, h⟩ := guard_ok h
    have hz : a.length + b.length ≤ sizeLine := by rw [← sline_eq]; exact of_decide_eq_true c
    exact op_add_str pins s σ H _ _ v u Q I rx ry ⟨a, b, rfl, rfl, hz, h.ok R _ (.ofStr (by rw [Str.length_append]; exact hz))⟩
  · rename_i a b e1 e2
    obtain ⟨c, h⟩ := guard_ok h
    have hz : a.length + b.length ≤ sizeLine := by rw [← sline_eq]; exact of_decide_eq_true c
    obtain ⟨_, a1, vs, rfl, s1, r1⟩ := R.listAt hp e1
    obtain ⟨_, a2, us, rfl, s2, r2⟩ := R.listAt hq e2
    cases rx
    cases ry
    obtain ⟨_, its, n, rv, e1'⟩ := (hK.symm ▸ s1 : LQ X.K H a1 vs).obj I
    obtain ⟨_, its2, n2, rv2, e2'⟩ := (hK.symm ▸ s2 : LQ X.K H a2 us).obj I
    have l1 := r1.length
    have l2 := r2.length
    have l3 := rv.length
    have l4 := rv2.length
    refine PySem.P.add_list e1' e2' ?_ (by rw [List.size_toArray, List.size_toArray]; omega)
    have ea : its.toArray ++ its2.toArray = (its ++ its2).toArray := by simp
    rw [ea]
    exact ⟨.ref _, _, I.lnew (t' := s.toks) (rv.append rv2) (by rw [List.length_append]; omega), rfl, mkL_ok R (by rw [List.length_append]; exact hz) (r1.append r2) I.fresh h⟩
  · rename_i a b e1 e2
    obtain ⟨c, h⟩ := guard_ok h
    have hz : a.length + b.length ≤ sizeLine := by rw [← sline_eq]; exact of_decide_eq_true c
    obtain ⟨_, a1, vs, rfl, s1, r1⟩ := R.tupAt hp e1
    obtain ⟨_, a2, us, rfl, s2, r2⟩ := R.tupAt hq e2
    have l1 := r1.length
    have l2 := r2.length
    refine op_catA pins s σ H _ _ v u Q I rx ry ⟨a1, a2, vs, us, rfl, rfl, hK ▸ s1, hK ▸ s2, by omega, fun z => ?_, fun _ z => ?_, fun _ z p hp' => ?_⟩
    · subst z
      have ea : a = [] := by
        cases a with
        | nil => rfl
        | cons _ _ => simp at l1
      subst ea
      rw [List.nil_append] at h
      refine h.ok R _ ?_
      have e0 : q = .tup b := rd_scal e2 rfl
      rw [← e0]
      exact hq
    · subst z
      have eb : b = [] := by
        cases b with
        | nil => rfl
        | cons _ _ => simp at l2
      subst eb
      rw [List.append_nil] at h
      refine h.ok R _ ?_
      have e0 : p = .tup a := rd_scal e1 rfl
      rw [← e0]
      exact hp
    · refine h ρ _ (R.alloc hp') (.ref p) ?_
      unfold RV
      exact ⟨by rw [List.length_append]; exact hz, p, _, rfl, .of upd_same, RVs.later R.cells (Lat.alloc hp') (r1.append r2)⟩
  · rename_i a k e1 e2
    obtain ⟨c, h⟩ := guard_ok h
    rw [Bool.and_eq_true, Bool.and_eq_true, decide_eq_true_eq, decide_eq_true_eq, decide_eq_true_eq, sline_eq] at c
    obtain ⟨⟨k1, k2⟩, hz0⟩ := c
    obtain ⟨_, a1, vs, rfl, s1, r1⟩ := R.listAt hp e1
    rw [rd_int e2] at hq
    cases hq.int
    cases rx
    obtain ⟨t, rfl⟩ := ry
    obtain ⟨_, its, n, rv, e⟩ := (hK.symm ▸ s1 : LQ X.K H a1 vs).obj I
    have l1 := r1.length
    have l3 := rv.length
    have hz : its.length * k.toNat ≤ sizeLine := by rw [← l3, ← l1]; exact hz0
    have hlen : its.toArray.size * k.toNat ≤ sizeLine := by rw [List.size_toArray]; exact hz
    have hcap : ¬ its.toArray.size * k.toNat > (2 ^ 63 - 1) / 8 := by
      have : (sizeLine : Nat) ≤ (2 ^ 63 - 1) / 8 := by decide
      omega
    have hfit : ¬ (!Builtin.List.listFitsIndex k) = true := by
      rw [fitsIndex_both (by omega) (by omega)]
      exact Bool.false_ne_true
    have hlong : ¬ Builtin.List.listTooLong (its.toArray.size * k.toNat) = true := by
      rw [notLongL hlen]
      exact Bool.false_ne_true
    have hnew : List.foldl (fun x1 x2 => x1 ++ x2) #[] (List.replicate (if its.toArray.isEmpty = true then 0 else k.toNat) its.toArray) = (List.replicate k.toNat its).flatten.toArray := by
      rw [size_rep]
      cases its with
      | nil => simp
      | cons a r' => rw [if_neg (by simp)]
    refine wpAny_binaryOp_repeat_ref (T := "list") (U := "int") (by decide) ⟨_, e, rfl⟩ (fun s' => typeIs_int s' k t) noFill_list_mul F.fills_int_mul F.slot_int_rmul repeat_list F.slot_int_index.lookup
      (call_meets F.slot_int_rmul (typeIs_int s k t) F.entry_int_rmul (F.args_int_rmul_2 _ _) (int___rmul___int_list k t a1 its.toArray n)
        ⟨e, rfl, ⟨_, e, rfl⟩, call_meets F.slot_list_mul ⟨_, e, rfl⟩ F.entry_list_mul (F.args_list_mul_2 _ _) (AutoListH.list___mul___list_int_3 a1 its.toArray n k t hfit hcap hlong) ⟨e, ?_⟩⟩)
    rw [hnew]
    exact ⟨.ref _, _, I.lnew (t' := s.toks) (rv.rep k.toNat) (by rw [PyProof.Rows.lm_len_rep_flat, Nat.mul_comm, l3]; exact hz), rfl, mkL_ok R (by show (List.replicate k.toNat a).flatten.length ≤ sizeLine; rw [PyProof.Rows.lm_len_rep_flat, Nat.mul_comm]; exact hz0) (RVs.rep r1 k.toNat) I.fresh h⟩
  · rename_i a k e1 e2
    obtain ⟨c, h⟩ := guard_ok h
    rw [Bool.and_eq_true, Bool.and_eq_true, Bool.and_eq_true, decide_eq_true_eq, decide_eq_true_eq, decide_eq_true_eq] at c
    obtain ⟨⟨⟨k0, k1⟩, hl⟩, ne⟩ := c
    obtain ⟨_, a1, vs, rfl, s1, r1⟩ := R.tupAt hp e1
    rw [rd_int e2] at hq
    cases hq.int
    have l1 := r1.length
    have nv : vs ≠ [] := fun z => by
      subst z
      cases a with
      | nil => cases ne
      | cons _ _ => simp at l1
    rcases (show k = 0 ∨ k = 1 ∨ 2 ≤ k by omega) with rfl | rfl | k2
    · refine op_rep01 pins s σ H _ _ v u Q I rx ry ⟨a1, 0, vs, rfl, rfl, hK ▸ s1, nv, .inr ⟨rfl, fun p hp' => ?_⟩⟩
      refine h ρ _ (R.alloc hp') (.ref p) ?_
      unfold RV
      exact ⟨Nat.zero_le _, p, [], rfl, .of upd_same, by unfold RVs; rfl⟩
    · refine op_rep01 pins s σ H _ _ v u Q I rx ry ⟨a1, 1, vs, rfl, rfl, hK ▸ s1, nv, .inl ⟨rfl, ?_⟩⟩
      have e0 : p = .tup a := rd_scal e1 rfl
      rw [e0] at hp
      have h : resW g W (.ok (.tup (repP 1 a)) M) ε T σ (EndQ g Q) := h
      rw [show repP 1 a = a by simp [repP]] at h
      exact h.ok R _ hp
    · refine op_repT pins s σ H _ _ v u Q I rx ry ⟨a1, k, vs, rfl, rfl, hK ▸ s1, nv, k2, k1, by omega, fun p hp' => ?_⟩
      refine h ρ _ (R.alloc hp') (.ref p) ?_
      unfold RV
      exact ⟨by
        show (List.replicate k.toNat a).flatten.length ≤ sizeLine
        rw [PyProof.Rows.lm_len_rep_flat, sizeLine_eq]
        have a1 : k.toNat * a.length ≤ 1000 * 1000 := Nat.mul_le_mul (by omega) hl
        omega, p, _, rfl, .of upd_same, RVs.later R.cells (Lat.alloc hp') (RVs.rep r1 k.toNat)⟩
  · exact h.elim
end
end WT
set_option maxRecDepth 100000
set_option autoImplicit false
/-! Soundness, 3: data, comparisons, items. -/
namespace WT
open PySem PySem.Spec PyProof.Rows L2

section
variable {g : Gx} {W : WX} {ρ : List Addr} {M : Mem} {H : Hp} {ε : Env} {T : List (PV × V)} {σ : SS} {X : Cx} {pins : List (Addr × Obj)} {s : Shared} {Q : VK}
theorem reads_key {h : Heap} {j : Key} {u : Value} (e : keyIs j u = true) {d : PyData} {r : Nat → Option PyData} (hd : deepW r (kPV j) = some d) : Reads h u d [] := by
  rcases keyIs_shape e with ⟨i, t, rfl, rfl⟩ | ⟨x, t, rfl, rfl⟩
  · unfold kPV deepW at hd
    cases hd
    exact .int i t
  · unfold kPV deepW at hd
    cases hd
    exact .str x t
mutual
/-- a tree of data is the library's data in the heap; hr: what is said of references -/
theorem deepW_reads (hK : X.K = g.K) (I : Inv X pins σ H s) {r : Nat → Option PyData} (hr : ∀ (i : Nat) (a : Addr) (d : PyData), ρ[i]? = some a → r i = some d → ∃ as, Reads s.heap (.ref a) d as) :
    ∀ (p : PV) (d : PyData) (v : V) (u : Value), deepW r p = some d → RV g ρ M H p v → RelV v u → ∃ as, Reads s.heap u d as
  | .non, d, v, u, e, h, q => by
    unfold deepW at e
    cases e
    cases h.non
    cases q
    exact ⟨_, Reads.none⟩
  | .bl b, d, v, u, e, h, q => by
    unfold deepW at e
    cases e
    cases h.bl
    cases q
    exact ⟨_, Reads.bool b⟩
  | .int i, d, v, u, e, h, q => by
    unfold deepW at e
    cases e
    cases h.int
    obtain ⟨t, rfl⟩ := q
    exact ⟨_, Reads.int i t⟩
  | .str x, d, v, u, e, h, q => by
    unfold deepW at e
    cases e
    cases h.str.1
    obtain ⟨t, rfl⟩ := q
    exact ⟨_, Reads.str x t⟩
  | .tup xs, d, v, u, e, h, q => by
    unfold deepW at e
    obtain ⟨ds, e1, rfl⟩ := Option.map_eq_some_iff.mp e
    obtain ⟨_, a, vs, rfl, t, rs⟩ := h.tupAt
    cases q
    obtain ⟨its, rv, ⟨o, ho, hc, n, hd⟩, _⟩ := I.tuple (hK ▸ t)
    obtain ⟨as, k⟩ := deepWs_reads hK I hr xs ds vs its e1 rs rv
    exact ⟨_, Reads.tuple ho hc hd k⟩
  | .lst xs, d, v, u, e, h, q => by
    unfold deepW at e
    obtain ⟨ds, e1, rfl⟩ := Option.map_eq_some_iff.mp e
    obtain ⟨_, a, vs, rfl, t, rs⟩ := h.listAt
    cases q
    obtain ⟨_, its, n, rv, ho⟩ := (hK.symm ▸ t : LQ X.K H a vs).obj I
    obtain ⟨as, k⟩ := deepWs_reads hK I hr xs ds vs its e1 rs rv
    exact ⟨_, Reads.list ho rfl rfl k⟩
  | .dic kvs, d, v, u, e, h, q => by
    unfold deepW at e
    obtain ⟨ds, e1, rfl⟩ := Option.map_eq_some_iff.mp e
    unfold RV at h
    obtain ⟨_, a, kws, rfl, t, rs⟩ := h
    cases q
    have t : Rd H a (.dK kws) := t.rd
    obtain ⟨_, _, vs, kv, o, es, ep, ho, hx, hd, _, pr, _⟩ := t.ok I.hok
    obtain ⟨as, bs, k1, k2⟩ := deepWd_reads hK I hr kvs ds kws vs es.toList e1 rs kv pr
    exact ⟨_, Reads.dict ho hx.1 hd k1 k2⟩
  | .ins _ _, d, v, u, e, h, q => by unfold deepW at e; cases e
  | .exc _ _, d, v, u, e, h, q => by unfold deepW at e; cases e
  | .ref i, d, v, u, e, h, q => by
    unfold deepW at e
    unfold RV at h
    obtain ⟨a, rfl, hi⟩ := h
    cases q
    exact hr i a d hi e
  | .cls _, d, v, u, e, h, q => by unfold deepW at e; cases e
  | .fn _, d, v, u, e, h, q => by unfold deepW at e; cases e
  | .ty _, d, v, u, e, h, q => by unfold deepW at e; cases e
  | .lk _ _ _, d, v, u, e, h, q => by unfold deepW at e; cases e
theorem deepWs_reads (hK : X.K = g.K) (I : Inv X pins σ H s) {r : Nat → Option PyData} (hr : ∀ (i : Nat) (a : Addr) (d : PyData), ρ[i]? = some a → r i = some d → ∃ as, Reads s.heap (.ref a) d as) :
    ∀ (ps : List PV) (ds : List PyData) (vs : List V) (us : List Value), deepWs r ps = some ds → RVs g ρ M H ps vs → Vals vs us → ∃ as, ReadsAll s.heap us ds as
  | [], ds, vs, us, e, h, q => by
    unfold deepWs at e
    unfold RVs at h
    cases e
    subst h
    cases q
    exact ⟨_, ReadsAll.nil⟩
  | x :: xs, ds, vs, us, e, h, q => by
    unfold deepWs at e
    obtain ⟨d, e1, e⟩ := Option.bind_eq_some_iff.mp e
    obtain ⟨ds', e2, rfl⟩ := Option.map_eq_some_iff.mp e
    unfold RVs at h
    obtain ⟨v, s', rfl, h1, h2⟩ := h
    cases q with
    | cons q1 q2 =>
      obtain ⟨as, k1⟩ := deepW_reads hK I hr x d v _ e1 h1 q1
      obtain ⟨bs, k2⟩ := deepWs_reads hK I hr xs ds' s' _ e2 h2 q2
      exact ⟨_, ReadsAll.cons k1 k2⟩
theorem deepWd_reads (hK : X.K = g.K) (I : Inv X pins σ H s) {r : Nat → Option PyData} (hr : ∀ (i : Nat) (a : Addr) (d : PyData), ρ[i]? = some a → r i = some d → ∃ as, Reads s.heap (.ref a) d as) :
    ∀ (kvs : List (PV × PV)) (ds : List (PyData × PyData)) (kws : List (Key × V)) (vs : List (Key × Value)) (es : List DictEntry), deepWd r kvs = some ds → RVd g ρ M H kvs kws → KV kws vs → Pairs (mixKind X.prog X.w) es vs →
      ∃ as bs, ReadsAll s.heap (es.map (·.key)) (ds.map (·.1)) as ∧ ReadsAll s.heap (es.map (·.val)) (ds.map (·.2)) bs
  | [], ds, kws, vs, es, e, h, q, pr => by
    unfold deepWd at e
    unfold RVd at h
    cases e
    subst h
    cases q
    cases pr
    exact ⟨_, _, ReadsAll.nil, ReadsAll.nil⟩
  | (k, x) :: xs, ds, kws, vs, es, e, h, q, pr => by
    unfold deepWd at e
    obtain ⟨c, e0, e⟩ := Option.bind_eq_some_iff.mp e
    obtain ⟨d, e1, e⟩ := Option.bind_eq_some_iff.mp e
    obtain ⟨ds', e2, rfl⟩ := Option.map_eq_some_iff.mp e
    unfold RVd at h
    obtain ⟨j, v, s', rfl, rfl, h1, h2⟩ := h
    cases q with
    | cons q1 q2 =>
      cases pr with
      | cons p1 p2 p3 =>
        obtain ⟨qe, qv⟩ := q1
        obtain ⟨as, bs, k1, k2⟩ := deepWd_reads hK I hr xs ds' s' _ _ e2 h2 q2 p3
        rw [← p2] at qv
        obtain ⟨cs, k3⟩ := deepW_reads hK I hr x d v _ e1 h1 qv
        rw [← qe] at p1
        exact ⟨_, _, ReadsAll.cons (reads_key p1 e0) k1, ReadsAll.cons k3 k2⟩
end
/-- a cell's content -/
theorem cellD_reads (hK : X.K = g.K) (I : Inv X pins σ H s) (R : Rl g ρ M H ε T σ) {r : Nat → Option PyData} (hr : ∀ (i : Nat) (a : Addr) (d : PyData), ρ[i]? = some a → r i = some d → ∃ as, Reads s.heap (.ref a) d as)
    (i : Nat) (a : Addr) (d : PyData) (hi : ρ[i]? = some a) (e : cellD r M[i]? = some d) : ∃ as, Reads s.heap (.ref a) d as := by
  cases hc : M[i]? with
  | none => rw [hc] at e; cases e
  | some c =>
    rw [hc] at e
    have ck := R.cel i a c hi hc
    cases c with
    | lst xs =>
      obtain ⟨ds, e1, rfl⟩ := Option.map_eq_some_iff.mp (show (deepWs r xs).map PyData.list = some d from e)
      obtain ⟨_, vs, h1, h2⟩ := ck
      obtain ⟨_, its, n, rv, ho⟩ := I.hok a _ h1
      obtain ⟨as, k⟩ := deepWs_reads hK I hr xs ds vs its e1 h2 rv
      exact ⟨_, Reads.list ho rfl rfl k⟩
    | dic kvs =>
      obtain ⟨ds, e1, rfl⟩ := Option.map_eq_some_iff.mp (show (deepWd r kvs).map PyData.dict = some d from e)
      obtain ⟨_, kws, h1, h2⟩ := ck
      obtain ⟨_, _, vs, kv, o, es, ep, ho, hx, hd, _, pr, _⟩ := I.hok a _ h1
      obtain ⟨as, bs, k1, k2⟩ := deepWd_reads hK I hr kvs ds kws vs es.toList e1 h2 kv pr
      exact ⟨_, Reads.dict ho hx.1 hd k1 k2⟩
    | ins _ _ => cases e
    | dead => cases e
theorem deep_reads (hK : X.K = g.K) (I : Inv X pins σ H s) (R : Rl g ρ M H ε T σ) {p : PV} {d : PyData} {v : V} {u : Value} (e : deep M p = some d) (h : RV g ρ M H p v) (q : RelV v u) : ∃ as, Reads s.heap u d as := by
  refine deepW_reads hK I (fun i a d hi e => ?_) p d v u e h q
  refine cellD_reads hK I R (fun j b c hj e2 => ?_) i a d hi e
  exact cellD_reads (r := fun _ => none) hK I R (fun _ _ _ _ z => by cases z) j b c hj e2

mutual
/-- without lists: no dict of it is the modules' one -/
theorem nl_reads (hK : X.K = g.K) (I : Inv X pins σ H s) {r : Nat → Option PyData} : ∀ (p : PV) (d : PyData) (v : V) (u : Value), p.nl = true → deepW r p = some d → RV g ρ M H p v → RelV v u → ∃ as, Reads s.heap u d as ∧ sysModules ∉ as
  | .non, d, v, u, _, e, h, q => by
    unfold deepW at e
    cases e
    cases h.non
    cases q
    exact ⟨_, Reads.none, by simp⟩
  | .bl b, d, v, u, _, e, h, q => by
    unfold deepW at e
    cases e
    cases h.bl
    cases q
    exact ⟨_, Reads.bool b, by simp⟩
  | .int i, d, v, u, _, e, h, q => by
    unfold deepW at e
    cases e
    cases h.int
    obtain ⟨t, rfl⟩ := q
    exact ⟨_, Reads.int i t, by simp⟩
  | .str x, d, v, u, _, e, h, q => by
    unfold deepW at e
    cases e
    cases h.str.1
    obtain ⟨t, rfl⟩ := q
    exact ⟨_, Reads.str x t, by simp⟩
  | .tup xs, d, v, u, n, e, h, q => by
    unfold deepW at e
    obtain ⟨ds, e1, rfl⟩ := Option.map_eq_some_iff.mp e
    obtain ⟨_, a, vs, rfl, t, rs⟩ := h.tupAt
    cases q
    obtain ⟨its, rv, ⟨o, ho, hc, n', hd⟩, _⟩ := I.tuple (hK ▸ t)
    obtain ⟨as, k, ns⟩ := nls_reads hK I xs ds vs its n e1 rs rv
    exact ⟨_, Reads.tuple ho hc hd k, ns⟩
  | .dic kvs, d, v, u, n, e, h, q => by
    unfold deepW at e
    obtain ⟨ds, e1, rfl⟩ := Option.map_eq_some_iff.mp e
    unfold RV at h
    obtain ⟨_, a, kws, rfl, t, rs⟩ := h
    cases q
    have t : Rd H a (.dK kws) := t.rd
    obtain ⟨_, hsy, vs, kv, o, es, ep, ho, hx, hd, _, pr, _⟩ := t.ok I.hok
    obtain ⟨as, bs, k1, k2, n1, n2⟩ := nld_reads hK I kvs ds kws vs es.toList n e1 rs kv pr
    have ne : sysModules ≠ a := fun z => by rw [z, beq_self_eq_true] at hsy; cases hsy
    exact ⟨_, Reads.dict ho hx.1 hd k1 k2, by simp only [List.mem_append, List.mem_cons, not_or]; exact ⟨⟨ne, n1⟩, n2⟩⟩
  | .lk _ _ _, d, v, u, n, e, h, q => by unfold deepW at e; cases e
theorem nls_reads (hK : X.K = g.K) (I : Inv X pins σ H s) {r : Nat → Option PyData} : ∀ (ps : List PV) (ds : List PyData) (vs : List V) (us : List Value), PV.nls ps = true → deepWs r ps = some ds → RVs g ρ M H ps vs → Vals vs us → ∃ as, ReadsAll s.heap us ds as ∧ sysModules ∉ as
  | [], ds, vs, us, _, e, h, q => by
    unfold deepWs at e
    unfold RVs at h
    cases e
    subst h
    cases q
    exact ⟨_, ReadsAll.nil, by simp⟩
  | x :: xs, ds, vs, us, n, e, h, q => by
    unfold deepWs at e
    obtain ⟨d, e1, e⟩ := Option.bind_eq_some_iff.mp e
    obtain ⟨ds', e2, rfl⟩ := Option.map_eq_some_iff.mp e
    unfold RVs at h
    obtain ⟨v, s', rfl, h1, h2⟩ := h
    obtain ⟨n1, n2⟩ := Bool.and_eq_true_iff.mp (show (PV.nl x && PV.nls xs) = true from n)
    cases q with
    | cons q1 q2 =>
      obtain ⟨as, k1, m1⟩ := nl_reads hK I x d v _ n1 e1 h1 q1
      obtain ⟨bs, k2, m2⟩ := nls_reads hK I xs ds' s' _ n2 e2 h2 q2
      exact ⟨_, ReadsAll.cons k1 k2, by simp only [List.mem_append, not_or]; exact ⟨m1, m2⟩⟩
theorem nld_reads (hK : X.K = g.K) (I : Inv X pins σ H s) {r : Nat → Option PyData} : ∀ (kvs : List (PV × PV)) (ds : List (PyData × PyData)) (kws : List (Key × V)) (vs : List (Key × Value)) (es : List DictEntry), PV.nld kvs = true → deepWd r kvs = some ds → RVd g ρ M H kvs kws → KV kws vs → Pairs (mixKind X.prog X.w) es vs →
      ∃ as bs, ReadsAll s.heap (es.map (·.key)) (ds.map (·.1)) as ∧ ReadsAll s.heap (es.map (·.val)) (ds.map (·.2)) bs ∧ sysModules ∉ as ∧ sysModules ∉ bs
  | [], ds, kws, vs, es, _, e, h, q, pr => by
    unfold deepWd at e
    unfold RVd at h
    cases e
    subst h
    cases q
    cases pr
    exact ⟨_, _, ReadsAll.nil, ReadsAll.nil, by simp, by simp⟩
  | (k, x) :: xs, ds, kws, vs, es, n, e, h, q, pr => by
    unfold deepWd at e
    obtain ⟨c, e0, e⟩ := Option.bind_eq_some_iff.mp e
    obtain ⟨d, e1, e⟩ := Option.bind_eq_some_iff.mp e
    obtain ⟨ds', e2, rfl⟩ := Option.map_eq_some_iff.mp e
    unfold RVd at h
    obtain ⟨j, v, s', rfl, rfl, h1, h2⟩ := h
    obtain ⟨n1, n2⟩ := Bool.and_eq_true_iff.mp (show (PV.nl x && PV.nld xs) = true from n)
    cases q with
    | cons q1 q2 =>
      cases pr with
      | cons p1 p2 p3 =>
        obtain ⟨qe, qv⟩ := q1
        obtain ⟨as, bs, k1, k2, m1, m2⟩ := nld_reads hK I xs ds' s' _ _ n2 e2 h2 q2 p3
        rw [← p2] at qv
        obtain ⟨cs, k3, m3⟩ := nl_reads hK I x d v _ n1 e1 h1 qv
        rw [← qe] at p1
        exact ⟨_, _, ReadsAll.cons (reads_key p1 e0) k1, ReadsAll.cons k3 k2, by simpa using m1, by simp only [List.mem_append, not_or]; exact ⟨m3, m2⟩⟩
end
/-- == of data, by values -/
theorem eqData_run (hK : X.K = g.K) (hu : X.A.units + 64 < cLine) {p q : PV} {x y : V} {v u : Value} {b : Bool} (I : Inv X pins σ H s) (rx : RelV x v) (ry : RelV y u) (R : Rl g ρ M H ε T σ) (hp : RV g ρ M H p x) (hq : RV g ρ M H q y)
    (e : eqData M p q = some b) :
    (∀ Q : VK, Q (.bl b) H → wpAny (model X.prog X.w) X.A (compareOp .Eq v u) (EP X pins σ Q) X.xe s) ∧ ∀ Q : VK, Q (.bl (!b)) H → wpAny (model X.prog X.w) X.A (compareOp .NotEq v u) (EP X pins σ Q) X.xe s := by
  have flat : ∀ c : Bool, L2.scal x y = true → decide (x = y) = c →
      (∀ Q : VK, Q (.bl c) H → wpAny (model X.prog X.w) X.A (compareOp .Eq v u) (EP X pins σ Q) X.xe s) ∧ ∀ Q : VK, Q (.bl (!c)) H → wpAny (model X.prog X.w) X.A (compareOp .NotEq v u) (EP X pins σ Q) X.xe s :=
    fun c h1 h2 => ⟨fun Q k => op_eq pins s σ H x y v u Q I rx ry ⟨h1, by rw [h2]; exact k⟩, fun Q k => op_ne pins s σ H x y v u Q I rx ry ⟨h1, by rw [h2]; exact k⟩⟩
  unfold eqData at e
  split at e <;> (try cases e)
  · rename_i e1 e2
    rw [rd_non e1] at hp; rw [rd_non e2] at hq
    cases hp.non; cases hq.non
    exact flat _ rfl rfl
  · rename_i a c e1 e2
    rw [rd_str e1] at hp; rw [rd_str e2] at hq
    cases hp.str.1; cases hq.str.1
    exact flat _ rfl dec_str
  · rename_i a c e1 e2
    rw [rd_int e1] at hp; rw [rd_int e2] at hq
    cases hp.int; cases hq.int
    exact flat _ rfl dec_int
  · rename_i a c e1 e2
    rw [rd_bl e1] at hp; rw [rd_bl e2] at hq
    cases hp.bl; cases hq.bl
    exact flat _ rfl dec_bl
  · rename_i e1 e2
    rw [rd_str e1] at hp; rw [rd_non e2] at hq
    cases hp.str.1; cases hq.non
    exact flat _ rfl rfl
  · rename_i e1 e2
    rw [rd_non e1] at hp; rw [rd_str e2] at hq
    cases hp.non; cases hq.str.1
    exact flat _ rfl rfl
  · rename_i e1 e2
    rw [rd_int e1] at hp; rw [rd_non e2] at hq
    cases hp.int; cases hq.non
    exact flat _ rfl rfl
  · rename_i e1 e2
    rw [rd_non e1] at hp; rw [rd_int e2] at hq
    cases hp.non; cases hq.int
    exact flat _ rfl rfl
  · rename_i e1 e2
    rw [rd_bl e1] at hp; rw [rd_non e2] at hq
    cases hp.bl; cases hq.non
    exact flat _ rfl rfl
  · rename_i e1 e2
    rw [rd_non e1] at hp; rw [rd_bl e2] at hq
    cases hp.non; cases hq.bl
    exact flat _ rfl rfl
  · rename_i e1 e2
    rw [rd_str e1] at hp; rw [rd_int e2] at hq
    cases hp.str.1; cases hq.int
    exact flat _ rfl rfl
  · rename_i e1 e2
    rw [rd_int e1] at hp; rw [rd_str e2] at hq
    cases hp.int; cases hq.str.1
    exact flat _ rfl rfl
  · rename_i e1 e2
    rw [rd_str e1] at hp; rw [rd_bl e2] at hq
    cases hp.str.1; cases hq.bl
    exact flat _ rfl rfl
  · rename_i e1 e2
    rw [rd_bl e1] at hp; rw [rd_str e2] at hq
    cases hp.bl; cases hq.str.1
    exact flat _ rfl rfl
  · obtain ⟨d, e1, e⟩ := Option.bind_eq_some_iff.mp e
    obtain ⟨d', e2, e⟩ := Option.bind_eq_some_iff.mp e
    split at e
    · rename_i sh
      rw [Bool.and_eq_true] at sh
      cases e
      obtain ⟨as, k1⟩ := deep_reads hK I R e1 hp rx
      obtain ⟨bs, k2⟩ := deep_reads hK I R e2 hq ry
      exact ⟨fun Q k => SeqAt.compareEq_shaped k1 k2 sh.1 sh.2 hu ⟨.bl _, H, I, rfl, k⟩, fun Q k => SeqAt.compareNe_shaped k1 k2 sh.1 sh.2 hu ⟨.bl _, H, I, rfl, k⟩⟩
    · cases e
theorem flatP_V {p : PV} {x : V} (f : flatP p = true) (h : RV g ρ M H p x) : flatV x = true := by
  cases p with
  | non => cases h.non; rfl
  | bl b => cases h.bl; rfl
  | int i => cases h.int; rfl
  | str z => cases h.str.1; rfl
  | _ => cases f
theorem flatP_Vs : ∀ {ps : List PV} {vs : List V}, ps.all flatP = true → RVs g ρ M H ps vs → vs.all flatV = true
  | [], _, _, h => by unfold RVs at h; subst h; rfl
  | p :: ps, _, f, h => by
    unfold RVs at h
    obtain ⟨v, s, rfl, h1, h2⟩ := h
    rw [List.all_cons, Bool.and_eq_true] at f
    rw [List.all_cons, flatP_V f.1 h1, flatP_Vs f.2 h2]
    rfl
theorem eqF_V {p q : PV} {x y : V} (f1 : flatP p = true) (f2 : flatP q = true) (h1 : RV g ρ M H p x) (h2 : RV g ρ M H q y) : eqV x y = eqF p q := by
  cases p with
  | non => cases h1.non; cases q with
    | non => cases h2.non; rfl
    | bl b => cases h2.bl; rfl
    | int i => cases h2.int; rfl
    | str z => cases h2.str.1; rfl
    | _ => cases f2
  | bl b => cases h1.bl; cases q with
    | non => cases h2.non; rfl
    | bl b => cases h2.bl; rfl
    | int i => cases h2.int; rfl
    | str z => cases h2.str.1; rfl
    | _ => cases f2
  | int i => cases h1.int; cases q with
    | non => cases h2.non; rfl
    | bl b => cases h2.bl; rfl
    | int i => cases h2.int; rfl
    | str z => cases h2.str.1; rfl
    | _ => cases f2
  | str z => cases h1.str.1; cases q with
    | non => cases h2.non; rfl
    | bl b => cases h2.bl; rfl
    | int i => cases h2.int; rfl
    | str z => cases h2.str.1; rfl
    | _ => cases f2
  | _ => cases f1
theorem inV_F {p : PV} {x : V} (f : flatP p = true) (h : RV g ρ M H p x) : ∀ {ps : List PV} {vs : List V}, ps.all flatP = true → RVs g ρ M H ps vs → inV x vs = ps.any fun z => eqF z p
  | [], _, _, h => by unfold RVs at h; subst h; rfl
  | q :: ps, _, f', h' => by
    unfold RVs at h'
    obtain ⟨v, s, rfl, h1, h2⟩ := h'
    rw [List.all_cons, Bool.and_eq_true] at f'
    show (eqV v x || inV x s) = _
    rw [inV_F f h f'.2 h2, eqF_V f'.1 f h1 h, List.any_cons]
theorem shaped_min {d : PyData} {ds : List PyData} {n : Nat} (h : SeqAt.shaped d = true) (hu : n + 65 < cLine) : n + 1 + min (PyData.depthAll ds) d.depth < cLine := by
  unfold SeqAt.shaped at h
  rw [Bool.and_eq_true] at h
  have := of_decide_eq_true h.2
  have : min (PyData.depthAll ds) d.depth ≤ d.depth := Nat.min_le_right _ _
  omega
theorem shaped_lay {d : PyData} (h : SeqAt.shaped d = true) : d.canLay0 = true := by
  unfold SeqAt.shaped at h
  rw [Bool.and_eq_true] at h
  exact h.1
theorem inSeq_run (hK : X.K = g.K) (hu : X.A.units + 65 < cLine) {p q : PV} {x y : V} {v u : Value} {b : Bool} {ys : List PV} (I : Inv X pins σ H s) (rx : RelV x v) (ry : RelV y u) (R : Rl g ρ M H ε T σ) (hp : RV g ρ M H p x) (hq : RV g ρ M H q y)
    (e0 : rd M q = .lst ys ∨ rd M q = .tup ys) (e : inSeq M p q ys = some b) :
    (∀ Q : VK, Q (.bl b) H → wpAny (model X.prog X.w) X.A (compareOp .In v u) (EP X pins σ Q) X.xe s) ∧ ∀ Q : VK, Q (.bl (!b)) H → wpAny (model X.prog X.w) X.A (compareOp .NotIn v u) (EP X pins σ Q) X.xe s := by
  unfold inSeq at e
  split at e
  · rename_i f
    rw [Bool.and_eq_true] at f
    cases e
    obtain ⟨a, vs, rfl, sq, rs⟩ : ∃ a vs, y = .ref a ∧ (SqL X.K H a vs ∨ SqT X.K H a vs) ∧ RVs g ρ M H ys vs := by
      rcases e0 with e0 | e0
      · obtain ⟨_, a, vs, e, h1, h2⟩ := R.listAt hq e0
        exact ⟨a, vs, e, .inl (hK ▸ h1.sq), h2⟩
      · obtain ⟨_, a, vs, e, h1, h2⟩ := R.tupAt hq e0
        exact ⟨a, vs, e, .inr (hK ▸ h1), h2⟩
    have k := inV_F f.1 hp f.2 rs
    exact ⟨fun Q z => op_in_seq pins s σ H x _ v u Q I rx ry ⟨a, vs, rfl, sq, flatP_V f.1 hp, flatP_Vs f.2 rs, by rw [if_neg (by decide), k]; exact z⟩,
      fun Q z => op_notIn_seq pins s σ H x _ v u Q I rx ry ⟨a, vs, rfl, sq, flatP_V f.1 hp, flatP_Vs f.2 rs, by rw [if_pos rfl, k]; exact z⟩⟩
  · obtain ⟨d, e1, e⟩ := Option.bind_eq_some_iff.mp e
    obtain ⟨as, k1⟩ := deep_reads hK I R e1 hp rx
    split at e
    · rename_i ds e2
      obtain ⟨bs, k2⟩ := deep_reads hK I R e2 hq ry
      split at e
      · rename_i sh
        rw [Bool.and_eq_true] at sh
        cases e
        have hl : PyData.canLayAll0 ds = true := by have := shaped_lay sh.2; simpa only [PyData.canLay0] using this
        exact ⟨fun Q z => SeqAt.in_list_reads k2 k1 hl (shaped_lay sh.1) (shaped_min sh.1 hu) ⟨.bl _, H, I, rfl, z⟩, fun Q z => SeqAt.notIn_list_reads k2 k1 hl (shaped_lay sh.1) (shaped_min sh.1 hu) ⟨.bl _, H, I, rfl, z⟩⟩
      · cases e
    · rename_i ds e2
      obtain ⟨bs, k2⟩ := deep_reads hK I R e2 hq ry
      split at e
      · rename_i sh
        rw [Bool.and_eq_true] at sh
        cases e
        have hl : PyData.canLayAll0 ds = true := by have := shaped_lay sh.2; simpa only [PyData.canLay0] using this
        exact ⟨fun Q z => SeqAt.in_tuple_reads k2 k1 hl (shaped_lay sh.1) (shaped_min sh.1 hu) ⟨.bl _, H, I, rfl, z⟩, fun Q z => SeqAt.notIn_tuple_reads k2 k1 hl (shaped_lay sh.1) (shaped_min sh.1 hu) ⟨.bl _, H, I, rfl, z⟩⟩
      · cases e
    · cases e
end
end WT
set_option maxRecDepth 100000
set_option autoImplicit false
/-! Soundness, 4: comparisons, items. -/
namespace WT
open PySem PySem.Spec PyProof.Rows L2

section
variable {g : Gx} {W : WX} {ρ : List Addr} {M : Mem} {H : Hp} {ε : Env} {T : List (PV × V)} {σ : SS} {X : Cx} {pins : List (Addr × Obj)} {s : Shared} {Q : VK}
/-- keys of a dict -/
theorem kPV_key {p : PV} {y : V} (h : isKey p = true) (r : RV g ρ M H p y) : ∃ k : Key, p = kPV k ∧ y = kV k := by
  cases p with
  | int i => exact ⟨.inl i, rfl, r.int⟩
  | str x => exact ⟨.inr x, rfl, r.str.1⟩
  | _ => cases h
theorem eqK_iff (a b : Key) : eqK (kPV a) (kPV b) = decide (a = b) := by
  cases a with
  | inl i => cases b with
    | inl j => exact (key_ll i j).symm
    | inr y => exact (key_lr i y).symm
  | inr x => cases b with
    | inl j => exact (key_rl x j).symm
    | inr y => rw [key_rr x y]; show (x == y) = decide (x = y); rw [Bool.eq_iff_iff]; simp
theorem getK_val {k : Key} : ∀ {kvs : List (PV × PV)} {kws : List (Key × V)}, RVd g ρ M H kvs kws → (∀ p, getK (kPV k) kvs = some p → ∃ v, valV kws k = some v ∧ RV g ρ M H p v) ∧ (getK (kPV k) kvs = none → valV kws k = none)
  | [], _, h => by unfold RVd at h; subst h; exact ⟨fun p e => (by cases e), fun _ => rfl⟩
  | (q, x) :: r, _, h => by
    unfold RVd at h
    obtain ⟨j, v, s, rfl, rfl, h1, h2⟩ := h
    have ih := getK_val (k := k) h2
    have e : getK (kPV k) ((kPV j, x) :: r) = if decide (j = k) = true then some x else getK (kPV k) r := by
      show (if eqK (kPV j) (kPV k) = true then _ else _) = _
      rw [eqK_iff]
    by_cases hj : j = k
    · have e2 : valV ((j, v) :: s) k = some v := valV_pos hj
      rw [e, if_pos (decide_eq_true hj), e2]
      exact ⟨fun p z => ⟨v, rfl, by cases z; exact h1⟩, fun z => by cases z⟩
    · have e2 : valV ((j, v) :: s) k = valV s k := valV_neg hj
      rw [e, if_neg (by simpa using hj), e2]
      exact ih
theorem RVd.lenD : ∀ {ps : List (PV × PV)} {vs : List (Key × V)}, RVd g ρ M H ps vs → ps.length = vs.length
  | [], _, h => by unfold RVd at h; subst h; rfl
  | (k, x) :: r, _, h => by
    unfold RVd at h
    obtain ⟨j, v, s, rfl, _, _, h2⟩ := h
    simp [RVd.lenD h2]
/-- what is read at a dict -/
theorem Rl.dictAt (R : Rl g ρ M H ε T σ) {p : PV} {v : V} (h : RV g ρ M H p v) {kvs : List (PV × PV)} (e : rd M p = .dic kvs) : ∃ a kws, v = .ref a ∧ Rd H a (.dK kws) ∧ RVd g ρ M H kvs kws := by
  cases p with
  | dic ys =>
    have : PV.dic ys = .dic kvs := e
    cases this
    unfold RV at h
    obtain ⟨_, a, kws, rfl, t, r⟩ := h
    exact ⟨a, kws, rfl, t.rd, r⟩
  | ref i =>
    unfold RV at h
    obtain ⟨a, rfl, hi⟩ := h
    have e' : (match M[i]? with
      | some (.lst xs) => PV.lst xs
      | some (.dic kvs) => .dic kvs
      | some (.ins c fs) => .ins c fs
      | _ => .ref i) = .dic kvs := e
    cases hc : M[i]? with
    | none => rw [hc] at e'; cases e'
    | some c =>
      rw [hc] at e'
      cases c with
      | dic ys =>
        cases e'
        obtain ⟨_, kws, h1, h2⟩ := R.cel i a _ hi hc
        exact ⟨a, kws, rfl, .inl h1, h2⟩
      | _ => cases e'
  | _ => cases e
theorem Rl.dget (R : Rl g ρ M H ε T σ) {p q : PV} {x y : V} {kvs : List (PV × PV)} (hq : RV g ρ M H q y) (e : rd M q = .dic kvs) (hk : isKey p = true) (hp : RV g ρ M H p x) :
    ∃ a o, y = .ref a ∧ DGet H a x o ∧ o.isSome = (getK p kvs).isSome ∧ ∀ r, getK p kvs = some r → ∃ v, o = some v ∧ RV g ρ M H r v := by
  obtain ⟨k, rfl, rfl⟩ := kPV_key hk hp
  obtain ⟨a, kws, rfl, hr, rs⟩ := R.dictAt hq e
  have h := getK_val (k := k) rs
  refine ⟨a, valV kws k, rfl, .inl ⟨kws, k, hr, rfl, rfl⟩, ?_, fun r z => ?_⟩
  · cases c : getK (kPV k) kvs with
    | none => rw [h.2 c] <;> rfl
    | some r =>
      obtain ⟨v, e1, _⟩ := h.1 r c
      rw [e1] <;> rfl
  · obtain ⟨v, e1, e2⟩ := h.1 r z
    exact ⟨v, e1, e2⟩
theorem isIn_run (hK : X.K = g.K) (hu : X.A.units + 65 < cLine) {p q : PV} {x y : V} {v u : Value} {b : Bool} (I : Inv X pins σ H s) (rx : RelV x v) (ry : RelV y u) (R : Rl g ρ M H ε T σ) (hp : RV g ρ M H p x) (hq : RV g ρ M H q y)
    (e : isIn M p q = some b) :
    (∀ Q : VK, Q (.bl b) H → wpAny (model X.prog X.w) X.A (compareOp .In v u) (EP X pins σ Q) X.xe s) ∧ ∀ Q : VK, Q (.bl (!b)) H → wpAny (model X.prog X.w) X.A (compareOp .NotIn v u) (EP X pins σ Q) X.xe s := by
  unfold isIn at e
  split at e
  · rename_i z e1
    split at e
    · rename_i c e2
      cases e
      rw [rd_str e1] at hq; rw [rd_str e2] at hp
      obtain ⟨rfl, _⟩ := hq.str
      obtain ⟨rfl, _⟩ := hp.str
      exact ⟨fun Q k => op_in_str pins s σ H _ _ v u Q I rx ry ⟨c, z, rfl, rfl, k⟩, fun Q k => op_notin_str pins s σ H _ _ v u Q I rx ry ⟨c, z, rfl, rfl, k⟩⟩
    · cases e
  · rename_i ys e1
    exact inSeq_run hK hu I rx ry R hp hq (.inl e1) e
  · rename_i ys e1
    exact inSeq_run hK hu I rx ry R hp hq (.inr e1) e
  · rename_i kvs e1
    split at e
    · rename_i hk
      cases e
      obtain ⟨a, o, rfl, dg, is, _⟩ := R.dget hq e1 hk hp
      cases ry
      exact ⟨fun Q k => d_in (by omega) I dg rx fun s' I' => ⟨.bl _, H, I', rfl, by rw [is]; exact k⟩, fun Q k => d_notIn (by omega) I dg rx fun s' I' => ⟨.bl _, H, I', rfl, by rw [is]; exact k⟩⟩
    · cases e
  · cases e
theorem RV.non_iff {p : PV} {x : V} (h : RV g ρ M H p x) : decide (x = V.non) = (match p with | .non => true | _ => false) := by
  cases p with
  | non => cases h.non; rfl
  | bl b => cases h.bl; rfl
  | int b => cases h.int; rfl
  | str b => cases h.str.1; rfl
  | tup xs => obtain ⟨_, a, vs, rfl, _⟩ := h.tupAt; rfl
  | lst xs => obtain ⟨_, a, vs, rfl, _⟩ := h.listAt; rfl
  | dic xs => unfold RV at h; obtain ⟨_, a, vs, rfl, _⟩ := h; rfl
  | ins c fs => unfold RV at h; obtain ⟨a, dx, vs, rfl, _⟩ := h; rfl
  | exc c fs => unfold RV at h; obtain ⟨a, rfl, _⟩ := h; rfl
  | ref i => unfold RV at h; obtain ⟨a, rfl, _⟩ := h; rfl
  | cls c => unfold RV at h; cases h; rfl
  | fn c => unfold RV at h; cases h; rfl
  | ty c => unfold RV at h; cases h; rfl
  | lk d o kws => unfold RV at h; obtain ⟨rfl, _⟩ := h; rfl
/-- == and != by an own __eq__ -/
def EqOwn (g : Gx) (X : Cx) (C : Ctx) (W : WX) : Prop := ∀ (op : CmpOp) (p q : PV) (ρ : List Addr) (M : Mem) (H : Hp) (ε : Env) (T : List (PV × V)) (σ : SS) (pins : List (Addr × Obj)) (s : Shared) (x y : V) (v u : Value) (Q : VK),
  op = .Eq ∨ op = .NotEq → (∃ c fs, rd M p = .ins c fs) → Inv X pins σ H s → RelV x v → RelV y u → Rl g ρ M H ε T σ → RV g ρ M H p x → RV g ρ M H q y → resW g W (cmpop C op p q M) ε T σ (EndQ g Q) →
  wpAny (model X.prog X.w) X.A (compareOp op v u) (EP X pins σ Q) X.xe s
theorem eqDeep_P (hK : X.K = g.K) {A : Around} (hu : A.units + 64 < cLine) {p q : PV} {x y : V} {v u : Value} {b : Bool} (I : Inv X pins σ H s) (rx : RelV x v) (ry : RelV y u) (R : Rl g ρ M H ε T σ) (hp : RV g ρ M H p x) (hq : RV g ρ M H q y)
    (e : eqDeep M p q = some b) : SeqAt.EqP X.prog X.w A s v u b := by
  obtain ⟨d, e1, e⟩ := Option.bind_eq_some_iff.mp e
  obtain ⟨c, e2, e⟩ := Option.bind_eq_some_iff.mp e
  split at e
  · rename_i hs
    cases e
    obtain ⟨as, r1⟩ := deep_reads hK I R e1 hp rx
    obtain ⟨bs, r2⟩ := deep_reads hK I R e2 hq ry
    unfold PySem.SeqAt.shaped at hs
    simp only [Bool.and_eq_true, decide_eq_true_eq] at hs
    have hm : min d.depth c.depth ≤ 64 := Nat.le_trans (Nat.min_le_left _ _) hs.1.2
    exact fun E Q hQ => SeqAt.eqBoolOverData X.prog X.w A E s v u d c as bs Q r1 r2 hs.1.1 hs.2.1 (by omega) hQ
  · cases e
theorem hits_of (hK : X.K = g.K) {A : Around} (hu : A.units + 64 < cLine) (I : Inv X pins σ H s) (R : Rl g ρ M H ε T σ) {kb : List (PV × PV)} {ls : List (Key × V)} {vb : List (Key × Value)} (rb : RVd g ρ M H kb ls) (vb0 : KV ls vb) : ∀ {ka : List (PV × PV)} {ks : List (Key × V)} {va : List (Key × Value)} {b : Bool},
    RVd g ρ M H ka ks → KV ks va → eqHit M kb ka = some b → PySem.W.KeqHitsP X.prog X.w A s vb va b
  | [], _, va, b, h, k, e => by
    unfold RVd at h
    subst h
    cases k
    cases e
    exact .nil
  | (q, x) :: r, _, va, b, h, k, e => by
    unfold RVd at h
    obtain ⟨j, v, ks, rfl, rfl, h1, h2⟩ := h
    cases k with
    | @cons _ p _ va' k1 k2 =>
      obtain ⟨k3, k4⟩ := k1
      obtain ⟨key, w⟩ := p
      have k3 : j = key := k3
      subst k3
      have e : (match getK (kPV j) kb with
        | none => some false
        | some y => (eqDeep M x y).bind fun e => (eqHit M kb r).map fun b => e && b) = some b := e
      have gv := getK_val (k := j) rb
      split at e
      · rename_i en
        cases e
        exact .miss (RelO.none_of (by rw [← gv.2 en]; exact vb0.val j))
      · rename_i y ey
        obtain ⟨c, e1, e⟩ := Option.bind_eq_some_iff.mp e
        obtain ⟨d, e2, rfl⟩ := Option.map_eq_some_iff.mp e
        obtain ⟨z, e3, e4⟩ := gv.1 y ey
        obtain ⟨w2, hw, rw2⟩ := RelO.some_of (v := z) (o := valueAt vb j) (by rw [← e3]; exact vb0.val j)
        exact .hit hw (eqDeep_P hK hu I k4 rw2 R h1 e4 e1) (hits_of hK hu I R rb vb0 h2 k2 e2)
theorem eqDic_run (hK : X.K = g.K) (hu : X.A.units + 65 < cLine) {p q : PV} {x y : V} {v u : Value} {ka kb : List (PV × PV)} {b : Bool} (I : Inv X pins σ H s) (rx : RelV x v) (ry : RelV y u) (R : Rl g ρ M H ε T σ) (hp : RV g ρ M H p x) (hq : RV g ρ M H q y)
    (e1 : rd M p = .dic ka) (e2 : rd M q = .dic kb) (e : eqDic M ka kb = some b) (h : Q (.bl b) H) : wpAny (model X.prog X.w) X.A (compareOp .Eq v u) (EP X pins σ Q) X.xe s := by
  obtain ⟨a, ks, rfl, r1, s1⟩ := R.dictAt hp e1
  obtain ⟨c, ls, rfl, r2, s2⟩ := R.dictAt hq e2
  cases (show v = Value.ref a from rx)
  cases (show u = Value.ref c from ry)
  obtain ⟨_, ya, va, ra, da⟩ := dk_rd I.hok r1
  obtain ⟨_, yb, vb, rb, db⟩ := dk_rd I.hok r2
  have la : ka.length = va.length := s1.lenD.trans (Paired.length ra)
  have lb : kb.length = vb.length := s2.lenD.trans (Paired.length rb)
  unfold eqDic at e
  by_cases hl : ka.length = kb.length
  · rw [decide_eq_true hl] at e
    refine PySem.W.rcP_dicts (knd := mixKind X.prog X.w) (r := b) ya yb da db (by omega) (fun _ => hits_of (A := X.A.in1) hK (by show X.A.units + 1 + 64 < cLine; omega) I R s2 rb s1 ra e) _ _ ?_
    rw [show (va.length == vb.length && b) = b from by rw [← la, ← lb, hl]; simp]
    exact ⟨.bl b, H, I, rfl, h⟩
  · rw [decide_eq_false hl] at e
    cases e
    refine PySem.W.rcP_dicts (knd := mixKind X.prog X.w) (r := false) ya yb da db (by omega) (fun z => absurd (la.trans (z.trans lb.symm)) hl) _ _ ?_
    rw [Bool.and_false]
    exact ⟨.bl false, H, I, rfl, h⟩
theorem cmpop_run {C : Ctx} (hK : X.K = g.K) (hu : X.A.units + 65 < cLine) (hE : EqOwn g X C W) {op : CmpOp} {p q : PV} {x y : V} {v u : Value} (I : Inv X pins σ H s) (rx : RelV x v) (ry : RelV y u) (R : Rl g ρ M H ε T σ)
    (hp : RV g ρ M H p x) (hq : RV g ρ M H q y) (h : resW g W (cmpop C op p q M) ε T σ (EndQ g Q)) : wpAny (model X.prog X.w) X.A (compareOp op v u) (EP X pins σ Q) X.xe s := by
  have h0 := h
  cases op with
  | Eq =>
    have h : resW g W (cmpEq C p q M) ε T σ (EndQ g Q) := h
    unfold cmpEq at h
    split at h
    · exact hE _ p q ρ M H ε T σ pins s x y v u Q (.inl rfl) ⟨_, _, by assumption⟩ I rx ry R hp hq h0
    · exact h.elim
    · rename_i e1 e2
      obtain ⟨r, e, h⟩ := ofOpt_ok h
      obtain ⟨b, e', rfl⟩ := Option.map_eq_some_iff.mp e
      exact eqDic_run hK hu I rx ry R hp hq e1 e2 e' (h.ok R _ (.ofBl _))
    · obtain ⟨r, e, h⟩ := ofOpt_ok h
      obtain ⟨b, e', rfl⟩ := Option.map_eq_some_iff.mp e
      exact (eqData_run hK (by omega) I rx ry R hp hq e').1 Q (h.ok R _ (.ofBl _))
  | NotEq =>
    have h : resW g W (cmpNe C p q M) ε T σ (EndQ g Q) := h
    unfold cmpNe at h
    split at h
    · exact hE _ p q ρ M H ε T σ pins s x y v u Q (.inr rfl) ⟨_, _, by assumption⟩ I rx ry R hp hq h0
    · exact h.elim
    · obtain ⟨r, e, h⟩ := ofOpt_ok h
      obtain ⟨b, e', rfl⟩ := Option.map_eq_some_iff.mp e
      exact (eqData_run hK (by omega) I rx ry R hp hq e').2 Q (h.ok R _ (.ofBl _))
  | In =>
    obtain ⟨r, e, h⟩ := ofOpt_ok h
    obtain ⟨b, e', rfl⟩ := Option.map_eq_some_iff.mp e
    exact (isIn_run hK hu I rx ry R hp hq e').1 Q (h.ok R _ (.ofBl _))
  | NotIn =>
    obtain ⟨r, e, h⟩ := ofOpt_ok h
    obtain ⟨b, e', rfl⟩ := Option.map_eq_some_iff.mp e
    exact (isIn_run hK hu I rx ry R hp hq e').2 Q (h.ok R _ (.ofBl _))
  | Is =>
    have h : resW g W (cmpIs false p q M) ε T σ (EndQ g Q) := h
    have k := hp.non_iff
    unfold cmpIs at h
    split at h
    · cases hq.non
      exact op_isN pins s σ H _ _ v u Q I rx ry ⟨rfl, by rw [k]; exact h.ok R _ (.ofBl _)⟩
    · rename_i hn
      cases hq.non
      refine op_isN pins s σ H _ _ v u Q I rx ry ⟨rfl, ?_⟩
      rw [k]
      split
      · exact (hn rfl).elim
      · exact h.ok R _ (.ofBl _)
    · exact h.elim
  | IsNot =>
    have h : resW g W (cmpIs true p q M) ε T σ (EndQ g Q) := h
    have k := hp.non_iff
    unfold cmpIs at h
    split at h
    · cases hq.non
      exact op_notN pins s σ H _ _ v u Q I rx ry ⟨rfl, by rw [k]; exact h.ok R _ (.ofBl _)⟩
    · rename_i hn
      cases hq.non
      refine op_notN pins s σ H _ _ v u Q I rx ry ⟨rfl, ?_⟩
      rw [k]
      split
      · exact (hn rfl).elim
      · exact h.ok R _ (.ofBl _)
    · exact h.elim
  | Lt =>
    have h : resW g W (cmpLt p q M) ε T σ (EndQ g Q) := h
    unfold cmpLt at h
    split at h
    · cases hp.int; cases hq.int
      exact op_lt pins s σ H _ _ v u Q I rx ry ⟨_, _, rfl, rfl, h.ok R _ (.ofBl _)⟩
    · cases hp.str.1; cases hq.str.1
      exact op_lt_str pins s σ H _ _ v u Q I rx ry ⟨_, _, rfl, rfl, h.ok R _ (.ofBl _)⟩
    · exact h.elim
  | LtE =>
    have h : resW g W (cmpLe p q M) ε T σ (EndQ g Q) := h
    unfold cmpLe at h
    split at h
    · cases hp.int; cases hq.int
      exact op_le pins s σ H _ _ v u Q I rx ry ⟨_, _, rfl, rfl, h.ok R _ (.ofBl _)⟩
    · cases hp.str.1; cases hq.str.1
      exact op_le_str pins s σ H _ _ v u Q I rx ry ⟨_, _, rfl, rfl, h.ok R _ (.ofBl _)⟩
    · exact h.elim
  | Gt =>
    have h : resW g W (cmpLt q p M) ε T σ (EndQ g Q) := h
    unfold cmpLt at h
    split at h
    · cases hp.int; cases hq.int
      exact op_gt pins s σ H _ _ v u Q I rx ry ⟨_, _, rfl, rfl, h.ok R _ (.ofBl _)⟩
    · cases hp.str.1; cases hq.str.1
      exact op_gt_str pins s σ H _ _ v u Q I rx ry ⟨_, _, rfl, rfl, h.ok R _ (.ofBl _)⟩
    · exact h.elim
  | GtE =>
    have h : resW g W (cmpLe q p M) ε T σ (EndQ g Q) := h
    unfold cmpLe at h
    split at h
    · cases hp.int; cases hq.int
      exact op_ge pins s σ H _ _ v u Q I rx ry ⟨_, _, rfl, rfl, h.ok R _ (.ofBl _)⟩
    · cases hp.str.1; cases hq.str.1
      exact op_ge_str pins s σ H _ _ v u Q I rx ry ⟨_, _, rfl, rfl, h.ok R _ (.ofBl _)⟩
    · exact h.elim
/-- a value's truth -/
theorem truthy_run (hK : X.K = g.K) {p : PV} {x : V} {v : Value} {b : Bool} {Q : Bool → Hp → Prop} (I : Inv X pins σ H s) (rx : RelV x v) (R : Rl g ρ M H ε T σ) (hp : RV g ρ M H p x) (e : truthy M p = some b) (h : Q b H) :
    wpAny (model X.prog X.w) X.A (PySem.truthy v) (TP X pins σ Q) X.xe s := by
  have go : TruV X.K x H b → wpAny (model X.prog X.w) X.A (PySem.truthy v) (TP X pins σ Q) X.xe s := fun z => tru_ok pins s σ H x v Q I rx ⟨b, z, h⟩
  unfold truthy at e
  split at e <;> (try cases e)
  · rename_i e1
    rw [rd_non e1] at hp
    cases hp.non
    exact go rfl
  · rename_i b e1
    rw [rd_bl e1] at hp
    cases hp.bl
    exact go rfl
  · rename_i b e1
    rw [rd_int e1] at hp
    cases hp.int
    exact go rfl
  · rename_i b e1
    rw [rd_str e1] at hp
    obtain ⟨rfl, hz⟩ := hp.str
    exact go ⟨hz, rfl⟩
  · rename_i xs e1
    obtain ⟨_, a, vs, rfl, h1, h2⟩ := R.tupAt hp e1
    refine go (.inr (.inl ⟨vs, hK ▸ h1, ?_⟩))
    have := h2.length
    cases xs <;> cases vs <;> first | rfl | simp at this
  · rename_i xs e1
    obtain ⟨_, a, vs, rfl, h1, h2⟩ := R.listAt hp e1
    refine go (.inl ⟨vs, hK ▸ h1.sq, ?_⟩)
    have := h2.length
    cases xs <;> cases vs <;> first | rfl | simp at this
  · rename_i kvs e1
    obtain ⟨a, kws, rfl, h1, h2⟩ := R.dictAt hp e1
    cases rx
    refine d_truth I h1 fun s' I' => ⟨H, I', ?_⟩
    have e : (!kws.isEmpty) = !kvs.isEmpty := by
      cases kvs with
      | nil => unfold RVd at h2; subst h2; rfl
      | cons q r =>
        obtain ⟨k, y⟩ := q
        unfold RVd at h2
        obtain ⟨j, v, s, rfl, _⟩ := h2
        rfl
    rw [e]
    exact h
end
end WT
set_option maxRecDepth 100000
set_option autoImplicit false
/-! Soundness, 5: expressions. -/
namespace WT
open PySem PySem.Spec PyProof.Rows L2

section
variable {g : Gx} {W : WX} {C : Ctx} {X : Cx} {a b c e : Expr} {pos : Pos}
/-- an expression against the core's -/
abbrev SE (g : Gx) (W : WX) (C : Ctx) (X : Cx) (e : Expr) (c : CE) : Prop := PE X e (tR g W (ev C c))
abbrev ST (g : Gx) (W : WX) (C : Ctx) (X : Cx) (e : Expr) (c : CE) : Prop := PT X e (tRt g W fun ε M => (ev C c ε M).test)
/-- two values in a row, then what is made of them -/
theorem two_run {ca cb : CE} {f : Value → Value → Sem Value} {k : PV → PV → Mem → Res PV} (ha : SE g W C X a ca) (hb : SE g W C X b cb)
    {ρ : List Addr} {M : Mem} {H : Hp} {ε : Env} {T : List (PV × V)} {σ : SS} {pins : List (Addr × Obj)} {s : Shared} {Q : VK} (I : Inv X pins σ H s) (R : Rl g ρ M H ε T σ)
    (h : resW g W ((ev C ca ε M).bind fun x M => (ev C cb ε M).bind fun y M => k x y M) ε T σ (EndQ g Q))
    (hf : ∀ (v u : Value) (s2 : Shared) (x y : V) (H2 : Hp) (p q : PV) (ρ2 : List Addr) (M2 : Mem) (T2 : List (PV × V)), Inv X pins σ H2 s2 → RelV x v → RelV y u → Rl g ρ2 M2 H2 ε T2 σ → RV g ρ2 M2 H2 p x → RV g ρ2 M2 H2 q y → resW g W (k p q M2) ε T2 σ (EndQ g Q) →
      wpAny (model X.prog X.w) X.A (f v u) (EP X pins σ Q) X.xe s2) :
    wpAny (model X.prog X.w) X.A (eval a X.env) (fun v s₁ => wpAny (model X.prog X.w) X.A (eval b X.env) (fun u s₂ => wpAny (model X.prog X.w) X.A (f v u) (EP X pins σ Q) X.xe s₂) X.xe s₁) X.xe s := by
  refine binT (R := fun x y H2 => ∃ ρ2 M2 T2 p q, Rl g ρ2 M2 H2 ε T2 σ ∧ RV g ρ2 M2 H2 p x ∧ RV g ρ2 M2 H2 q y ∧ resW g W (k p q M2) ε T2 σ (EndQ g Q)) ha hb I ?_ fun v u s2 x y H2 I2 rx ry ⟨ρ2, M2, T2, p, q, R2, h1, h2, h3⟩ => hf v u s2 x y H2 p q ρ2 M2 T2 I2 rx ry R2 h1 h2 h3
  refine tR.of R h fun p ρ1 M1 H1 x R1 h1 => ?_
  refine tR.of R1 (h1.more fun q hq => List.mem_cons_of_mem _ hq) fun q ρ2 M2 H2 y R2 h2 => ?_
  exact ⟨ρ2, M2, _, p, q, R2, R2.tail.head, R2.head, h2.more fun q hq => List.mem_cons_of_mem _ hq⟩

/-! ### constants and names -/
theorem se_none {k : Nat} : SE g W C X (.Constant .none k pos) (.lit .non) := ⟨fun pins s σ H Q I ⟨ρ, M, ε, T, R, h⟩ => pe_non.run pins s σ H Q I (h.ok R .non .ofNon)⟩
theorem se_bl {k : Nat} {i : Bool} : SE g W C X (.Constant (.bool i) k pos) (.lit (.bl i)) := ⟨fun pins s σ H Q I ⟨ρ, M, ε, T, R, h⟩ => pe_bl.run pins s σ H Q I (h.ok R (.bl i) (.ofBl i))⟩
theorem se_int {k : Nat} {i : Int} : SE g W C X (.Constant (.int i) k pos) (.lit (.int i)) := ⟨fun pins s σ H Q I ⟨ρ, M, ε, T, R, h⟩ => pe_int.run pins s σ H Q I (h.ok R (.int i) (.ofInt i))⟩
theorem se_str {k : Nat} {i : Str} (hz : i.length ≤ sizeLine) : SE g W C X (.Constant (.str i) k pos) (.lit (.str i)) := ⟨fun pins s σ H Q I ⟨ρ, M, ε, T, R, h⟩ => pe_str.run pins s σ H Q I (h.ok R (.str i) (.ofStr hz))⟩
theorem se_loc {i : Nat} {x : Str} (hN : X.N[i]? = some x) (hv : Vis X.env.scope x) (hd : (x == ("__debug__" : Str)) = false) (hcd : (x == ("__classdict__" : Str)) = false) : SE g W C X (.Name x pos) (.loc i) :=
  ⟨fun pins s σ H Q I ⟨ρ, M, ε, T, R, h⟩ => by
    refine (pe_var (pos := pos) hN hv hd hcd).run pins s σ H Q I ?_
    have h : resW g W (match ε[i]? with
      | some (some v) => .ok v M
      | _ => .stuck) ε T σ (EndQ g Q) := h
    split at h
    · rename_i p e
      obtain ⟨v, e1, r⟩ := R.env i p e
      exact ⟨v, e1, h.ok R v r⟩
    · exact h.elim⟩
/-- a value that the module has, or a built-in type -/
theorem se_glo {x : Str} {p : PV} {v : V} {u : Value} (hg : Gl X x) (hm : X.mg x = some u) (r : RelV v u) (hd : (x == ("__debug__" : Str)) = false) (rv : ∀ ρ M H, RV g ρ M H p v) : SE g W C X (.Name x pos) (.glo p) :=
  ⟨fun pins s σ H Q I ⟨ρ, M, ε, T, R, h⟩ => (pe_glob (pos := pos) hg hm r hd).run pins s σ H Q I (h.ok R v (rv ρ M H))⟩
theorem se_bty {x : Str} {n : String} (hg : Gl X x) (hm : X.mg x = none) (hv : bootBuiltins x = some (.type n)) (hn : x ≠ "__name__") (hd : (x == ("__debug__" : Str)) = false) : SE g W C X (.Name x pos) (.glo (.ty n)) :=
  ⟨fun pins s σ H Q I ⟨ρ, M, ε, T, R, h⟩ => (pe_bltn (v := .ty n) (pos := pos) hg hm hv rfl hn hd).run pins s σ H Q I (h.ok R (.ty n) (by unfold RV; rfl))⟩

/-! ### operators -/
theorem se_bin {op : Operator} {m : Bool} {ca cb : CE} (hK : X.K = g.K) (ha : SE g W C X a ca) (hb : SE g W C X b cb) : SE g W C X (.BinOp a op b pos) (.bin op m ca cb) :=
  ⟨fun pins s σ H Q I ⟨ρ, M, ε, T, R, h⟩ => wpAny_BinOp (two_run ha hb I R h fun v u s2 x y H2 p q ρ2 M2 T2 I2 rx ry R2 hp hq h2 => binop_run hK I2 rx ry R2 hp hq h2)⟩
theorem se_neg {ca : CE} (ha : SE g W C X a ca) : SE g W C X (.UnaryOp .USub a pos) (.neg ca) :=
  ⟨fun pins s σ H Q I ⟨ρ, M, ε, T, R, h⟩ => by
    refine (pe_un (pos := pos) un_neg ha).run pins s σ H Q I ?_
    refine tR.of R h fun p ρ1 M1 H1 x R1 h1 => ?_
    split at h1
    · rename_i i
      cases R1.head.int
      exact ⟨i, rfl, h1.ok R1.tail _ (.ofInt _)⟩
    · exact h1.elim⟩
theorem se_cmp {op : CmpOp} {ca cb : CE} (hK : X.K = g.K) (hu : X.A.units + 65 < cLine) (hE : EqOwn g X C W) (hm : behindInMarks op b = false) (ha : SE g W C X a ca) (hb : SE g W C X b cb) : SE g W C X (.Compare a [op] [b] pos) (.cmp op ca cb) :=
  ⟨fun pins s σ H Q I ⟨ρ, M, ε, T, R, h⟩ => wpAny_Compare1 (two_run ha hb I R h fun v u s2 x y H2 p q ρ2 M2 T2 I2 rx ry R2 hp hq h2 => cmpop_run hK hu hE I2 rx ry R2 hp hq h2) hm⟩
/-- an outcome that is tested -/
theorem test_more {r : Res PV} {ε : Env} {T : List (PV × V)} {σ : SS} {A : Bool → List Addr → Mem → Hp → Prop} (h : resW g W r.test ε T σ A) :
    resW g W r ε T σ fun p ρ M H => ∃ k, truthy M p = some k ∧ A k ρ M H := by
  cases r with
  | ok p M =>
    intro ρ H R
    have h : resW g W (match truthy M p with
      | some b => .ok b M
      | none => .stuck) ε T σ A := h
    split at h
    · rename_i k e
      exact ⟨k, e, h ρ H R⟩
    · exact h.elim
  | err e M => exact h
  | stuck => exact h
theorem st_cmp {op : CmpOp} {ca cb : CE} (hK : X.K = g.K) (hu : X.A.units + 65 < cLine) (hE : EqOwn g X C W) (hm : behindInMarks op b = false) (ha : SE g W C X a ca) (hb : SE g W C X b cb) : ST g W C X (.Compare a [op] [b] pos) (.cmp op ca cb) :=
  ⟨fun pins s σ H Q I ⟨ρ, M, ε, T, R, h⟩ => by
    have h := test_more h
    refine wpAny_isTrue_Compare1 ?_ hm
    -- the value, its truth, then Q of it
    have key := two_run (f := compareOp op) (Q := fun x H2 => ∃ ρ2 M2 p k, Rl g ρ2 M2 H2 ε T σ ∧ RV g ρ2 M2 H2 p x ∧ truthy M2 p = some k ∧ Q k H2) ha hb I R (k := fun x y M => cmpop C op x y M)
      (h.imp fun p ρ2 M2 H2 R2 ⟨k, e, q⟩ v rv => ⟨ρ2, M2, p, k, R2, rv, e, q⟩) fun v u s2 x y H2 p q ρ2 M2 T2 I2 rx ry R2 hp hq h2 => cmpop_run hK hu hE I2 rx ry R2 hp hq h2
    refine thn key fun v s1 h1 => thn h1 fun u s2 h2 => thn h2 fun d s3 ⟨x, H3, I3, r3, ρ3, M3, p, k, R3, rv, e, q⟩ => ?_
    exact truthy_run hK I3 r3 R3 rv e q⟩
/-- a comparison of three -/
theorem se_chn {o1 o2 : CmpOp} {ca cb cc : CE} (hK : X.K = g.K) (hu : X.A.units + 65 < cLine) (hE : EqOwn g X C W) (hm : lastMarks [o1, o2] [b, c] = false) (ha : SE g W C X a ca) (hb : SE g W C X b cb) (hc : SE g W C X c cc) :
    SE g W C X (.Compare a [o1, o2] [b, c] pos) (.chn o1 o2 ca cb cc) :=
  ⟨fun pins s σ H Q I ⟨ρ, M, ε, T, R, h⟩ => by
    refine Compare_chain (thn (ha.run pins s σ H _ I (tR.of R h (Q := fun x H1 => ∃ ρ1 M1 p, Rl g ρ1 M1 H1 ε ((p, x) :: T) σ ∧ resW g W _ ε T σ (EndQ g Q)) fun p ρ1 M1 H1 x R1 h1 => ⟨ρ1, M1, p, R1, h1⟩)) fun v s1 ⟨x, H1, I1, r1, ρ1, M1, p, R1, h1⟩ => chain_link ?_) hm
    refine thn (hb.run pins s1 σ H1 _ I1 (tR.of R1 (h1.more fun q hq => List.mem_cons_of_mem _ hq) (Q := fun y H2 => ∃ ρ2 M2 q, Rl g ρ2 M2 H2 ε ((q, y) :: (p, x) :: T) σ ∧ resW g W _ ε ((p, x) :: T) σ (EndQ g Q)) fun q ρ2 M2 H2 y R2 h2 => ⟨ρ2, M2, q, R2, h2⟩)) fun u s2 ⟨y, H2, I2, r2, ρ2, M2, q, R2, h2⟩ => ?_
    have h3 := h2.bind
    refine thn (cmpop_run (C := C) (op := o1) (p := p) (q := q) (W := W) (Q := fun z H3 => ∃ ρ3 M3 r, Rl g ρ3 M3 H3 ε ((q, y) :: (p, x) :: T) σ ∧ RV g ρ3 M3 H3 r z ∧ resW g W (match r with
      | .bl true => (ev C cc ε M3).bind fun z M => cmpop C o2 q z M
      | .bl false => .ok (.bl false) M3
      | _ => .stuck) ε ((p, x) :: T) σ (EndQ g Q)) hK hu hE I2 r1 r2 R2 R2.tail.head R2.head ((h3.more fun q hq => List.mem_cons_of_mem _ hq).imp fun r ρ3 M3 H3 R3 h4 z rz => ⟨ρ3, M3, r, R3, rz, h4⟩)) fun d s3 ⟨z, H3, I3, r3, ρ3, M3, r, R3, rz, h4⟩ => ?_
    split at h4
    · cases rz.bl
      cases r3
      refine wpAny_truthy_bool (ite_tt (chain_last ?_))
      refine thn (hc.run pins s3 σ H3 _ I3 (tR.of R3 (h4.more fun q hq => List.mem_cons_of_mem _ hq) (Q := fun z H4 => ∃ ρ4 M4 t, Rl g ρ4 M4 H4 ε ((t, z) :: (q, y) :: (p, x) :: T) σ ∧ resW g W (cmpop C o2 q t M4) ε ((q, y) :: (p, x) :: T) σ (EndQ g Q)) fun t ρ4 M4 H4 z R4 h5 => ⟨ρ4, M4, t, R4, h5⟩)) fun w' s4 ⟨z, H4, I4, r4, ρ4, M4, t, R4, h5⟩ => ?_
      exact cmpop_run hK hu hE I4 r2 r4 R4 R4.tail.head R4.head (h5.more fun q hq => List.mem_cons_of_mem _ hq)
    · cases rz.bl
      cases r3
      exact wpAny_truthy_bool (ite_ff ⟨.bl false, H3, I3, rfl, h4.ok R3.tail _ (.ofBl _)⟩)
    · exact h4.elim⟩
/-- .. as a test -/
theorem st_chn {o1 o2 : CmpOp} {ca cb cc : CE} (hK : X.K = g.K) (hu : X.A.units + 65 < cLine) (hE : EqOwn g X C W) (hm : lastMarks [o1, o2] [b, c] = false) (ha : SE g W C X a ca) (hb : SE g W C X b cb) (hc : SE g W C X c cc) :
    ST g W C X (.Compare a [o1, o2] [b, c] pos) (.chn o1 o2 ca cb cc) :=
  ⟨fun pins s σ H Q I ⟨ρ, M, ε, T, R, h⟩ => by
    have h := test_more h
    refine isTrue_chain (thn (ha.run pins s σ H _ I (tR.of R h (Q := fun x H1 => ∃ ρ1 M1 p, Rl g ρ1 M1 H1 ε ((p, x) :: T) σ ∧ resW g W _ ε T σ _) fun p ρ1 M1 H1 x R1 h1 => ⟨ρ1, M1, p, R1, h1⟩)) fun v s1 ⟨x, H1, I1, r1, ρ1, M1, p, R1, h1⟩ => test_link ?_) hm
    refine thn (hb.run pins s1 σ H1 _ I1 (tR.of R1 (h1.more fun q hq => List.mem_cons_of_mem _ hq) (Q := fun y H2 => ∃ ρ2 M2 q, Rl g ρ2 M2 H2 ε ((q, y) :: (p, x) :: T) σ ∧ resW g W _ ε ((p, x) :: T) σ _) fun q ρ2 M2 H2 y R2 h2 => ⟨ρ2, M2, q, R2, h2⟩)) fun u s2 ⟨y, H2, I2, r2, ρ2, M2, q, R2, h2⟩ => ?_
    have h3 := h2.bind
    refine thn (cmpop_run (C := C) (op := o1) (p := p) (q := q) (W := W) (Q := fun z H3 => ∃ ρ3 M3 r, Rl g ρ3 M3 H3 ε ((q, y) :: (p, x) :: T) σ ∧ RV g ρ3 M3 H3 r z ∧ resW g W (match r with
      | .bl true => (ev C cc ε M3).bind fun z M => cmpop C o2 q z M
      | .bl false => .ok (.bl false) M3
      | _ => .stuck) ε ((p, x) :: T) σ fun p ρ M H => ∃ k, truthy M p = some k ∧ Q k H) hK hu hE I2 r1 r2 R2 R2.tail.head R2.head ((h3.more fun q hq => List.mem_cons_of_mem _ hq).imp fun r ρ3 M3 H3 R3 h4 z rz => ⟨ρ3, M3, r, R3, rz, h4⟩)) fun d s3 ⟨z, H3, I3, r3, ρ3, M3, r, R3, rz, h4⟩ => ?_
    split at h4
    · cases rz.bl
      cases r3
      refine wpAny_truthy_bool (ite_tt (test_last ?_))
      refine thn (hc.run pins s3 σ H3 _ I3 (tR.of R3 (h4.more fun q hq => List.mem_cons_of_mem _ hq) (Q := fun z H4 => ∃ ρ4 M4 t, Rl g ρ4 M4 H4 ε ((t, z) :: (q, y) :: (p, x) :: T) σ ∧ resW g W (cmpop C o2 q t M4) ε ((q, y) :: (p, x) :: T) σ _) fun t ρ4 M4 H4 z R4 h5 => ⟨ρ4, M4, t, R4, h5⟩)) fun w' s4 ⟨z, H4, I4, r4, ρ4, M4, t, R4, h5⟩ => ?_
      refine thn (cmpop_run (Q := fun x5 H5 => ∃ ρ5 M5 p5 k, Rl g ρ5 M5 H5 ε ((t, z) :: (q, y) :: (p, x) :: T) σ ∧ RV g ρ5 M5 H5 p5 x5 ∧ truthy M5 p5 = some k ∧ Q k H5) hK hu hE I4 r2 r4 R4 R4.tail.head R4.head ((h5.more fun q hq => List.mem_cons_of_mem _ hq).imp fun r ρ5 M5 H5 R5 ⟨k, e, q5⟩ v5 rv => ⟨ρ5, M5, r, k, R5, rv, e, q5⟩)) fun d' s5 ⟨x5, H5, I5, r5, ρ5, M5, p5, k, R5, rv, e, q5⟩ => truthy_run hK I5 r5 R5 rv e q5
    · cases rz.bl
      cases r3
      refine wpAny_truthy_bool (ite_ff ?_)
      obtain ⟨k, e, q⟩ := h4.ok R3.tail
      cases e
      exact ⟨H3, I3, q⟩
    · exact h4.elim⟩

/-! ### and, or, not, if -/
theorem test_ok {r : Res PV} {k : Bool → Mem → Res PV} {ε : Env} {T : List (PV × V)} {σ : SS} {A : PV → List Addr → Mem → Hp → Prop} (h : resW g W (r.test.bind k) ε T σ A) :
    resW g W r ε T σ fun p ρ M H => ∃ b, truthy M p = some b ∧ resW g W (k b M) ε T σ A := test_more h.bind
theorem TruV.of {K : PySem.W.Frag} {x : V} {H : Hp} {k : Bool} (h : TruV K x H k) : TruV K x H k := h
theorem se_and {es : List Expr} {ca cb : CE} (hK : X.K = g.K) (ha : SE g W C X a ca) (hb : SE g W C X (.BoolOp .And (b :: es) pos) cb) : SE g W C X (.BoolOp .And (a :: b :: es) pos) (.and ca cb) :=
  ⟨fun pins s σ H Q I ⟨ρ, M, ε, T, R, h⟩ => by
    refine BoolOp_and (thn (ha.run pins s σ H _ I (tR.of R h (Q := fun x H1 => ∃ ρ1 M1 p, Rl g ρ1 M1 H1 ε ((p, x) :: T) σ ∧ resW g W _ ε T σ (EndQ g Q)) fun p ρ1 M1 H1 x R1 h1 => ⟨ρ1, M1, p, R1, h1⟩)) fun v s1 ⟨x, H1, I1, r1, ρ1, M1, p, R1, h1⟩ => ?_)
    have h1 : resW g W (match truthy M1 p with
      | some true => ev C cb ε M1
      | some false => .ok p M1
      | none => .stuck) ε T σ (EndQ g Q) := h1
    split at h1
    · rename_i e
      refine thn (truthy_run (Q := fun k H2 => k = true ∧ H2 = H1) hK I1 r1 R1 R1.head e ⟨rfl, rfl⟩) fun k s2 ⟨H2, I2, ek, eh⟩ => ?_
      subst ek
      rw [eh] at I2
      exact hb.run pins s2 σ H1 Q I2 ⟨ρ1, M1, ε, T, R1.tail, h1⟩
    · rename_i e
      refine thn (truthy_run (Q := fun k H2 => k = false ∧ H2 = H1) hK I1 r1 R1 R1.head e ⟨rfl, rfl⟩) fun k s2 ⟨H2, I2, ek, eh⟩ => ?_
      subst ek
      rw [eh] at I2
      exact ⟨x, H1, I2, r1, h1.ok R1.tail x R1.head⟩
    · exact h1.elim⟩
theorem se_or {es : List Expr} {ca cb : CE} (hK : X.K = g.K) (ha : SE g W C X a ca) (hb : SE g W C X (.BoolOp .Or (b :: es) pos) cb) : SE g W C X (.BoolOp .Or (a :: b :: es) pos) (.or ca cb) :=
  ⟨fun pins s σ H Q I ⟨ρ, M, ε, T, R, h⟩ => by
    refine BoolOp_or (thn (ha.run pins s σ H _ I (tR.of R h (Q := fun x H1 => ∃ ρ1 M1 p, Rl g ρ1 M1 H1 ε ((p, x) :: T) σ ∧ resW g W _ ε T σ (EndQ g Q)) fun p ρ1 M1 H1 x R1 h1 => ⟨ρ1, M1, p, R1, h1⟩)) fun v s1 ⟨x, H1, I1, r1, ρ1, M1, p, R1, h1⟩ => ?_)
    have h1 : resW g W (match truthy M1 p with
      | some false => ev C cb ε M1
      | some true => .ok p M1
      | none => .stuck) ε T σ (EndQ g Q) := h1
    split at h1
    · rename_i e
      refine thn (truthy_run (Q := fun k H2 => k = false ∧ H2 = H1) hK I1 r1 R1 R1.head e ⟨rfl, rfl⟩) fun k s2 ⟨H2, I2, ek, eh⟩ => ?_
      subst ek
      rw [eh] at I2
      exact hb.run pins s2 σ H1 Q I2 ⟨ρ1, M1, ε, T, R1.tail, h1⟩
    · rename_i e
      refine thn (truthy_run (Q := fun k H2 => k = true ∧ H2 = H1) hK I1 r1 R1 R1.head e ⟨rfl, rfl⟩) fun k s2 ⟨H2, I2, ek, eh⟩ => ?_
      subst ek
      rw [eh] at I2
      exact ⟨x, H1, I2, r1, h1.ok R1.tail x R1.head⟩
    · exact h1.elim⟩
/-- as tests: from the parts' tests -/
theorem test_and {ca cb : CE} {ε : Env} {M : Mem} : (ev C (.and ca cb) ε M).test = (ev C ca ε M).test.bind fun b M => match b with
    | true => (ev C cb ε M).test
    | false => .ok false M := by
  show (Res.bind (ev C ca ε M) _).test = _
  cases ev C ca ε M with
  | ok p M1 =>
    show Res.test (match truthy M1 p with
      | some true => ev C cb ε M1
      | some false => .ok p M1
      | none => .stuck) = Res.bind (match truthy M1 p with
      | some b => .ok b M1
      | none => .stuck) _
    cases t : truthy M1 p with
    | none => rfl
    | some b => cases b with
      | true => rfl
      | false =>
        show (match truthy M1 p with
          | some b => Res.ok b M1
          | none => .stuck) = _
        rw [t] <;> rfl
  | err x M1 => rfl
  | stuck => rfl
theorem test_or {ca cb : CE} {ε : Env} {M : Mem} : (ev C (.or ca cb) ε M).test = (ev C ca ε M).test.bind fun b M => match b with
    | false => (ev C cb ε M).test
    | true => .ok true M := by
  show (Res.bind (ev C ca ε M) _).test = _
  cases ev C ca ε M with
  | ok p M1 =>
    show Res.test (match truthy M1 p with
      | some false => ev C cb ε M1
      | some true => .ok p M1
      | none => .stuck) = Res.bind (match truthy M1 p with
      | some b => .ok b M1
      | none => .stuck) _
    cases t : truthy M1 p with
    | none => rfl
    | some b => cases b with
      | false => rfl
      | true =>
        show (match truthy M1 p with
          | some b => Res.ok b M1
          | none => .stuck) = _
        rw [t] <;> rfl
  | err x M1 => rfl
  | stuck => rfl
theorem test_not {ca : CE} {ε : Env} {M : Mem} : (ev C (.not ca) ε M).test = (ev C ca ε M).test.bind fun b M => .ok (!b) M := by
  show Res.test (Res.bind (ev C ca ε M).test _) = _
  cases (ev C ca ε M).test <;> rfl
theorem st_and {es : List Expr} {ca cb : CE} (ha : ST g W C X a ca) (hb : PW X (.BoolOp .And (b :: es) pos) (tRt g W fun ε M => (ev C cb ε M).test)) : PW X (.BoolOp .And (a :: b :: es) pos) (tRt g W fun ε M => (ev C (.and ca cb) ε M).test) :=
  ⟨fun whole pins s σ H Q I ⟨ρ, M, ε, T, R, h⟩ => by
    have h : resW g W (ev C (.and ca cb) ε M).test ε T σ _ := h
    rw [test_and] at h
    refine (pw_and (pos := pos) ha hb).run whole pins s σ H Q I ?_
    refine tRt.of (f := fun ε M => (ev C ca ε M).test) R h fun k ρ1 M1 H1 R1 h1 => ?_
    cases k with
    | true => exact iteT ⟨ρ1, M1, ε, T, R1, h1⟩
    | false => exact iteF (h1.ok R1)⟩
theorem st_or {es : List Expr} {ca cb : CE} (ha : ST g W C X a ca) (hb : PW X (.BoolOp .Or (b :: es) pos) (tRt g W fun ε M => (ev C cb ε M).test)) : PW X (.BoolOp .Or (a :: b :: es) pos) (tRt g W fun ε M => (ev C (.or ca cb) ε M).test) :=
  ⟨fun whole pins s σ H Q I ⟨ρ, M, ε, T, R, h⟩ => by
    have h : resW g W (ev C (.or ca cb) ε M).test ε T σ _ := h
    rw [test_or] at h
    refine (pw_or (pos := pos) ha hb).run whole pins s σ H Q I ?_
    refine tRt.of (f := fun ε M => (ev C ca ε M).test) R h fun k ρ1 M1 H1 R1 h1 => ?_
    cases k with
    | false => exact iteF ⟨ρ1, M1, ε, T, R1, h1⟩
    | true => exact iteT (h1.ok R1)⟩
theorem st_not {ca : CE} (ha : ST g W C X a ca) : ST g W C X (.UnaryOp .Not a pos) (.not ca) :=
  ⟨fun pins s σ H Q I ⟨ρ, M, ε, T, R, h⟩ => by
    have h : resW g W (ev C (.not ca) ε M).test ε T σ _ := h
    rw [test_not] at h
    refine (pt_not (pos := pos) ha).run pins s σ H Q I ?_
    exact tRt.of (f := fun ε M => (ev C ca ε M).test) R h fun k ρ1 M1 H1 R1 h1 => h1.ok R1⟩
theorem se_not {ca : CE} (hK : X.K = g.K) (ha : SE g W C X a ca) : SE g W C X (.UnaryOp .Not a pos) (.not ca) :=
  ⟨fun pins s σ H Q I ⟨ρ, M, ε, T, R, h⟩ => by
    have h1 := test_ok (r := ev C ca ε M) (k := fun b M => .ok (.bl (!b)) M) h
    refine UnaryOp_ (thn (ha.run pins s σ H (fun v H1 => ∃ ρ1 M1 p b, Rl g ρ1 M1 H1 ε ((p, v) :: T) σ ∧ truthy M1 p = some b ∧ Q (.bl (!b)) H1) I ⟨ρ, M, ε, T, R, h1.imp fun p ρ1 M1 H1 R1 ⟨b, e, h2⟩ v rv => ⟨ρ1, M1, p, b, R1.push rv, e, h2.ok R1 _ (.ofBl _)⟩⟩) fun v s1 ⟨x, H1, I1, r1, ρ1, M1, p, b, R1, e, q⟩ => ?_)
    exact not_of (thn (truthy_run (Q := fun k H2 => Q (.bl (!k)) H2) hK I1 r1 R1 R1.head e q) fun k s2 ⟨H2, I2, q2⟩ => ⟨.bl (!k), H2, I2, rfl, q2⟩)⟩
/-- a plain test -/
theorem st_plain {ca : CE} (hK : X.K = g.K) (ha : SE g W C X a ca) (he : ∀ whole, isTrue a X.env whole = (do let v ← whole; standAt a.pos; holding [v] (PySem.truthy v))) : ST g W C X a ca :=
  ⟨fun pins s σ H Q I ⟨ρ, M, ε, T, R, h⟩ => by
    have h1 := test_more h
    refine isTrue_plain (thn (ha.run pins s σ H (fun v H1 => ∃ ρ1 M1 p b, Rl g ρ1 M1 H1 ε ((p, v) :: T) σ ∧ truthy M1 p = some b ∧ Q b H1) I ⟨ρ, M, ε, T, R, h1.imp fun p ρ1 M1 H1 R1 ⟨b, e, h2⟩ v rv => ⟨ρ1, M1, p, b, R1.push rv, e, h2⟩⟩) fun v s1 ⟨x, H1, I1, r1, ρ1, M1, p, b, R1, e, q⟩ => ?_) (he _)
    exact truthy_run hK I1 r1 R1 R1.head e q⟩
theorem se_ife {ca cb cc : CE} (hc : ST g W C X c cc) (ha : SE g W C X a ca) (hb : SE g W C X b cb) : SE g W C X (.IfExp c a b pos) (.ife cc ca cb) :=
  ⟨fun pins s σ H Q I ⟨ρ, M, ε, T, R, h⟩ => by
    refine (pe_ifExp (pos := pos) hc ha hb).run pins s σ H Q I ?_
    refine tRt.of R (f := fun ε M => (ev C cc ε M).test) (k := fun t M => match t with
      | true => ev C ca ε M
      | false => ev C cb ε M) h fun k ρ1 M1 H1 R1 h1 => ?_
    cases k with
    | true => exact iteT ⟨ρ1, M1, ε, T, R1, h1⟩
    | false => exact iteF ⟨ρ1, M1, ε, T, R1, h1⟩⟩
end
end WT
set_option maxRecDepth 100000
set_option autoImplicit false
/-! Soundness, 6: argument lists, displays, subscripts, slices. -/
namespace WT
open PySem PySem.Spec PyProof.Rows L2

section
variable {g : Gx} {W : WX} {C : Ctx} {X : Cx} {a b c e : Expr} {es : List Expr} {pos p2 : Pos}
abbrev SA (g : Gx) (W : WX) (C : Ctx) (X : Cx) (es : List Expr) (cs : List CE) : Prop := PA X es (tRs g W (evs C cs))
theorem RVs.nil {ρ : List Addr} {M : Mem} {H : Hp} : RVs g ρ M H [] [] := by unfold RVs; rfl
theorem RVs.cons {ρ : List Addr} {M : Mem} {H : Hp} {p : PV} {v : V} {ps : List PV} {vs : List V} (h : RV g ρ M H p v) (r : RVs g ρ M H ps vs) : RVs g ρ M H (p :: ps) (v :: vs) := by unfold RVs; exact ⟨v, vs, rfl, h, r⟩
theorem sa_nil : SA g W C X [] [] := ⟨fun pos pins s σ H Q I ⟨ρ, M, ε, T, R, h⟩ => pa_nil.run pos pins s σ H Q I (h.ok R [] .nil)⟩
theorem sa_cons {ca : CE} {cs : List CE} (ha : SE g W C X a ca) (hr : SA g W C X es cs) (hs : starEach (a :: es) X.env = (false, eval a X.env) :: starEach es X.env) : SA g W C X (a :: es) (ca :: cs) :=
  ⟨fun pos pins s σ H Q I ⟨ρ, M, ε, T, R, h⟩ => (pa_cons ha hr hs).run pos pins s σ H Q I (tR.of R h fun p ρ1 M1 H1 v R1 h1 =>
    tRs.of R1 (h1.more fun q hq => List.mem_cons_of_mem _ hq) fun ps ρ2 M2 H2 vs R2 hv h2 => h2.ok R2 (v :: vs) (.cons R2.head hv))⟩
/-- what is known of an outcome besides -/
theorem resW.also {α : Type} {r : Res α} {ε : Env} {T : List (PV × V)} {σ : SS} {A : α → List Addr → Mem → Hp → Prop} (h : resW g W r ε T σ A) {B : α → Mem → Prop} (hb : ∀ p M, r = .ok p M → B p M) : resW g W r ε T σ fun p ρ M H => B p M ∧ A p ρ M H := by
  cases r with
  | ok p M => exact fun ρ H R => ⟨hb p M rfl, h ρ H R⟩
  | err e M => exact h
  | stuck => exact h
theorem evs_len {ε : Env} : ∀ {cs : List CE} {M M' : Mem} {ps : List PV}, evs C cs ε M = .ok ps M' → ps.length = cs.length
  | [], M, M', ps, h => by cases h; rfl
  | c :: cs, M, M', ps, h => by
    have h : ((ev C c ε M).bind fun v M => (evs C cs ε M).bind fun vs M => .ok (v :: vs) M) = .ok ps M' := h
    cases e : ev C c ε M with
    | ok v M1 =>
      rw [e] at h
      have h : ((evs C cs ε M1).bind fun vs M => .ok (v :: vs) M) = .ok ps M' := h
      cases e2 : evs C cs ε M1 with
      | ok vs M2 =>
        rw [e2] at h
        cases h
        simp [evs_len e2]
      | err x M2 => rw [e2] at h; cases h
      | stuck => rw [e2] at h; cases h
    | err x M1 => rw [e] at h; cases h
    | stuck => rw [e] at h; cases h
theorem line_le {n : Nat} (h : n ≤ 1000) : n ≤ sizeLine := by rw [sizeLine_eq]; omega
theorem se_tup {x1 : Nat} {cs : List CE} (ha : SA g W C X es cs) (hz : cs.length ≤ 1000) : SE g W C X (.Tuple es x1 pos) (.tup cs) :=
  ⟨fun pins s σ H Q I ⟨ρ, M, ε, T, R, h⟩ => (pe_tup ha).run pins s σ H Q I ⟨ρ, M, ε, T, R,
    (resW.also (B := fun ps _ => ps.length ≤ sizeLine) (resW.bind (r := evs C cs ε M) (k := fun vs M => .ok (PV.tup vs) M) h) fun ps M' e => by rw [evs_len e]; exact line_le hz).imp fun ps ρ1 M1 H1 R1 ⟨hl, h1⟩ vs rv => ⟨by rw [← rv.length]; exact hl, fun p hp => by
      refine h1 ρ1 _ (R1.alloc hp) (.ref p) ?_
      unfold RV
      exact ⟨hl, p, vs, rfl, .of upd_same, RVs.later R1.cells (Lat.alloc hp) rv⟩⟩⟩⟩
theorem se_lst {m : Bool} {cs : List CE} (ha : SA g W C X es cs) (hz : cs.length ≤ 1000) : SE g W C X (.List es pos) (.lst m cs) :=
  ⟨fun pins s σ H Q I ⟨ρ, M, ε, T, R, h⟩ => (pe_lst ha).run pins s σ H Q I ⟨ρ, M, ε, T, R,
    (resW.also (B := fun ps _ => ps.length ≤ sizeLine) (resW.bind (r := evs C cs ε M) (k := fun vs M => mkL m vs M) h) fun ps M' e => by rw [evs_len e]; exact line_le hz).imp fun ps ρ1 M1 H1 R1 ⟨hl, h1⟩ vs rv => ⟨by rw [← rv.length]; exact hl, fun p hp => mkL_ok R1 hl rv hp h1⟩⟩⟩
theorem se_dic0 {m : Bool} : SE g W C X (.Dict [] [] pos) (.dic m [] []) :=
  ⟨fun pins s σ H Q I ⟨ρ, M, ε, T, R, h⟩ => pe_dnewK.run pins s σ H Q I fun p hp => by
    cases m with
    | false =>
      have h : resW g W (.ok (.dic []) M) ε T σ (EndQ g Q) := h
      refine h ρ _ (R.alloc hp) (.ref p) ?_
      unfold RV
      exact ⟨Nat.zero_le _, p, [], rfl, .of ⟨upd_same, fun l => (R.live_some l) hp⟩, by unfold RVd; rfl⟩
    | true =>
      have h : resW g W (.ok (.ref M.length) (M ++ [.dic []])) ε T σ (EndQ g Q) := h
      have R' := R.new (c := .dic []) (o := .dK []) hp ⟨Nat.zero_le _, [], upd_same, by unfold RVd; rfl⟩
      refine h (ρ ++ [p]) _ R' (.ref p) ?_
      unfold RV
      exact ⟨p, rfl, by rw [← R.len]; simp⟩⟩

/-! ### subscripts -/
theorem RVs.atI {ρ : List Addr} {M : Mem} {H : Hp} {ps : List PV} {vs : List V} (h : RVs g ρ M H ps vs) {i : Int} {p : PV} (e : L2.atI ps i = some p) : ∃ v, L2.atI vs i = some v ∧ RV g ρ M H p v := by
  unfold L2.atI at e ⊢
  rw [← h.length]
  cases q : ixN ps.length i with
  | none => (rw [q] at e; cases e)
  | some j => rw [q] at e; exact h.get e
theorem rd_ix {M : Mem} {p q : PV} (e : rd M p = q) : rd M p = q := e
theorem se_idx {ca cb : CE} (hK : X.K = g.K) (hu : X.A.units + 65 < cLine) (ha : SE g W C X a ca) (hb : SE g W C X b cb) (hs : PlainIx b) : SE g W C X (.Subscript a b pos) (.idx ca cb) :=
  ⟨fun pins s σ H Q I ⟨ρ, M, ε, T, R, h⟩ => Subscript_ (two_run (k := fun x y M => getIx M x y) ha hb I R h fun v u s2 x y H2 p q ρ2 M2 T2 I2 rx ry R2 hp hq h2 => by
    unfold getIx at h2
    split at h2
    · rename_i xs i e1
      obtain ⟨r, e2, h3⟩ := ofOpt_ok h2
      obtain ⟨_, a1, vs, rfl, s1, r1⟩ := R2.listAt hp e1
      obtain ⟨w, e3, rw'⟩ := r1.atI e2
      cases hq.int
      exact ix_list a b pins s2 σ H2 _ _ v u Q I2 rx ry ⟨a1, vs, i, w, rfl, rfl, hK ▸ s1.sq, e3, h3.ok R2 w rw'⟩ (hs v u)
    · rename_i xs i e1
      obtain ⟨r, e2, h3⟩ := ofOpt_ok h2
      obtain ⟨_, a1, vs, rfl, s1, r1⟩ := R2.tupAt hp e1
      obtain ⟨w, e3, rw'⟩ := r1.atI e2
      cases hq.int
      exact ix_tup a b pins s2 σ H2 _ _ v u Q I2 rx ry ⟨a1, vs, i, w, rfl, rfl, hK ▸ s1, e3, h3.ok R2 w rw'⟩ (hs v u)
    · rename_i z i e1
      obtain ⟨r, e2, h3⟩ := ofOpt_ok h2
      rw [rd_str e1] at hp
      obtain ⟨rfl, hz⟩ := hp.str
      cases hq.int
      cases e4 : L2.atI z.cps.toList i with
      | none => rw [e4] at e2; cases e2
      | some ch =>
        rw [e4] at e2
        cases e2
        exact ix_str a b pins s2 σ H2 _ _ v u Q I2 rx ry ⟨z, i, ch, rfl, rfl, hz, e4, h3.ok R2 _ (.ofStr (line_le (by show 1 ≤ 1000; omega)))⟩ (hs v u)
    · rename_i kvs k e1
      obtain ⟨r, e2, h3⟩ := ofOpt_ok h2
      obtain ⟨a1, o, rfl, dg, _, hv⟩ := R2.dget (p := .str k) hp e1 rfl hq
      obtain ⟨w, rfl, rw'⟩ := hv r e2
      cases (show v = Value.ref a1 from rx)
      exact tail_any (dict_typeIs I2 dg) PySem.F.slot_dict_getitem.lookup (d_getItem (by omega) I2 dg ry fun w' s3 I3 q3 => ⟨w, H2, I3, q3, h3.ok R2 w rw'⟩) (hs _ u)
    · rename_i kvs k e1
      obtain ⟨r, e2, h3⟩ := ofOpt_ok h2
      obtain ⟨a1, o, rfl, dg, _, hv⟩ := R2.dget (p := .int k) hp e1 rfl hq
      obtain ⟨w, rfl, rw'⟩ := hv r e2
      cases (show v = Value.ref a1 from rx)
      exact tail_any (dict_typeIs I2 dg) PySem.F.slot_dict_getitem.lookup (d_getItem (by omega) I2 dg ry fun w' s3 I3 q3 => ⟨w, H2, I3, q3, h3.ok R2 w rw'⟩) (hs _ u)
    · exact h2.elim)⟩

/-! ### slices -/
/-- a bound: none, or an expression -/
inductive Bd (g : Gx) (W : WX) (C : Ctx) (X : Cx) : Option Expr → CE → Prop
  | none : Bd g W C X none (.lit .non)
  | some {e : Expr} {c : CE} : SE g W C X e c → Bd g W C X (some e) c
theorem withB_ok {p : PV} {k : Option Int → Res PV} {ε : Env} {T : List (PV × V)} {σ : SS} {A : PV → List Addr → Mem → Hp → Prop} (h : resW g W (withB p k) ε T σ A) : ∃ l, bnd p = some l ∧ resW g W (k l) ε T σ A := by
  unfold withB at h
  cases q : bnd p with
  | none => rw [q] at h; exact h.elim
  | some l => rw [q] at h; exact ⟨l, rfl, h⟩
theorem bd_run {lo : Option Expr} {c : CE} (hb : Bd g W C X lo c) {pins : List (Addr × Obj)} {s : Shared} {ρ : List Addr} {M : Mem} {H : Hp} {ε : Env} {T : List (PV × V)} {σ : SS} {r : Option Int → Mem → Res PV} {A : PV → List Addr → Mem → Hp → Prop} (I : Inv X pins σ H s) (R : Rl g ρ M H ε T σ)
    (h : resW g W ((ev C c ε M).bind fun p M => withB p fun l => r l M) ε T σ A) {Q : Option Int → Hp → Prop} (hq : ∀ l ρ1 M1 H1, Rl g ρ1 M1 H1 ε T σ → resW g W (r l M1) ε T σ A → Q l H1) :
    wpAny (model X.prog X.w) X.A (evalPart lo X.env) (fun u s' => ∃ l H', Inv X pins σ H' s' ∧ IsPart u l ∧ Q l H') X.xe s := by
  cases hb with
  | none =>
    have h : resW g W (withB .non fun l => r l M) ε T σ A := h
    obtain ⟨l, e, h⟩ := withB_ok h
    cases e
    exact po_none.run pins s σ H Q I (hq _ _ _ _ R h)
  | some he =>
    rw [evalPart_some]
    refine thn (he.run pins s σ H (fun v H1 => ∃ ρ1 M1 p l, Rl g ρ1 M1 H1 ε T σ ∧ RV g ρ1 M1 H1 p v ∧ bnd p = some l ∧ resW g W (r l M1) ε T σ A) I (tR.of R h fun p ρ1 M1 H1 v R1 h1 => ?_)) fun u s1 ⟨v, H1, I1, ru, ρ1, M1, p, l, R1, hp, e, h1⟩ => ?_
    · obtain ⟨l, e, h1⟩ := withB_ok h1
      exact ⟨ρ1, M1, p, l, R1.tail, R1.head, e, h1⟩
    · cases p with
      | non =>
        cases e
        cases hp.non
        cases ru
        exact ⟨none, H1, I1, .none, hq _ _ _ _ R1 h1⟩
      | int i =>
        cases e
        cases hp.int
        obtain ⟨t, rfl⟩ := ru
        exact ⟨some i, H1, I1, .int i t, hq _ _ _ _ R1 h1⟩
      | _ => cases e
theorem cut_len {α : Type} (xs : List α) (lo hi : Option Int) : (cut xs lo hi).length ≤ xs.length := by
  unfold WT.cut
  rw [List.length_take, List.length_drop]
  omega
theorem cut_all {α : Type} (xs : List α) {lo hi : Option Int} (h : HT.sIx xs.length 0 lo = 0 ∧ HT.sIx xs.length xs.length hi = xs.length) : cut xs lo hi = xs := by
  unfold WT.cut
  rw [h.1, h.2]
  simp
theorem se_slc {m : Bool} {ca cl ch : CE} {lo hi : Option Expr} (hK : X.K = g.K) (ha : SE g W C X a ca) (hl : Bd g W C X lo cl) (hh : Bd g W C X hi ch) : SE g W C X (.Subscript a (.Slice lo hi none p2) pos) (.slc m ca cl ch) :=
  ⟨fun pins s σ H Q I ⟨ρ, M, ε, T, R, h⟩ => by
    refine Subscript_ (thn (ha.run pins s σ H (fun x H1 => ∃ ρ1 M1 p, Rl g ρ1 M1 H1 ε ((p, x) :: T) σ ∧ resW g W ((ev C cl ε M1).bind fun l M => withB l fun l => (ev C ch ε M).bind fun h M => withB h fun h => slice m p l h M) ε T σ (EndQ g Q)) I (tR.of R h fun p ρ1 M1 H1 x R1 h1 => ⟨ρ1, M1, p, R1, h1⟩)) fun v s1 ⟨x, H1, I1, r1, ρ1, M1, p, R1, h1⟩ => ?_)
    refine wpAny_Slice (thn (bd_run hl (Q := fun l H2 => ∃ ρ2 M2, Rl g ρ2 M2 H2 ε ((p, x) :: T) σ ∧ resW g W ((ev C ch ε M2).bind fun h M => withB h fun h => slice m p l h M) ε ((p, x) :: T) σ (EndQ g Q)) (r := fun l M => (ev C ch ε M).bind fun h M => withB h fun h => slice m p l h M) (A := EndQ g Q) I1 R1 (h1.more fun q hq => List.mem_cons_of_mem _ hq) fun l ρ2 M2 H2 R2 h2 => ⟨ρ2, M2, R2, h2⟩) fun vl s2 ⟨l, H2, I2, pl, ρ2, M2, R2, h2⟩ => ?_)
    refine thn (bd_run hh (Q := fun u H3 => ∃ ρ3 M3, Rl g ρ3 M3 H3 ε ((p, x) :: T) σ ∧ resW g W (slice m p l u M3) ε ((p, x) :: T) σ (EndQ g Q)) (r := fun u M => slice m p l u M) (A := EndQ g Q) I2 R2 h2 fun u ρ3 M3 H3 R3 h3 => ⟨ρ3, M3, R3, h3⟩) fun vu s3 ⟨u, H3, I3, pu, ρ3, M3, R3, h3⟩ => ?_
    rw [evalPart_none]
    refine wpAny_pure ?_
    have I4 : Inv X pins σ H3 { s3 with heap := s3.heap.push { cls := .type "slice", data := .fields #[vl, vu, .none] } } := I3.kept (t' := s3.toks) fun b ob q => Heap.get?_push_of_some _ q
    have hsl : { s3 with heap := s3.heap.push { cls := .type "slice", data := .fields #[vl, vu, .none] } }.heap.IsSliceOf s3.heap.objs.size vl vu .none := Heap.IsSliceOf.new ..
    have key : ∃ T id, typeLookup (.type T) "__getitem__" = pure (some (.builtin id)) ∧ ({ s3 with heap := s3.heap.push { cls := .type "slice", data := .fields #[vl, vu, .none] } } : Shared).TypeIs v T ∧ wpAny (model X.prog X.w) X.A (getItem v (.ref s3.heap.objs.size)) (EP X pins σ Q) X.xe { s3 with heap := s3.heap.push { cls := .type "slice", data := .fields #[vl, vu, .none] } } := by
      unfold slice at h3
      split at h3
      · rename_i xs e1
        obtain ⟨hz, a1, vs, rfl, s1', rr⟩ := R3.listAt R3.head e1
        exact sl_list pins _ σ H3 _ v vl vu l u _ Q I4 r1 hsl pl pu ⟨a1, vs, rfl, hK ▸ s1'.sq, fun q hq => mkL_ok R3 (Nat.le_trans (cut_len _ _ _) hz) (rr.cut l u) hq h3⟩
      · rename_i xs e1
        obtain ⟨hz, a1, vs, rfl, s1', rr⟩ := R3.tupAt R3.head e1
        refine sl_tupA pins _ σ H3 _ v vl vu l u _ Q I4 r1 hsl pl pu ⟨a1, vs, rfl, hK ▸ s1', fun hw => ?_, fun _ q hq => ?_⟩
        · rw [← rr.length] at hw
          rw [cut_all xs hw] at h3
          refine h3.ok R3 _ ?_
          have e0 : p = .tup xs := rd_scal e1 rfl
          rw [← e0]
          exact R3.head
        · refine h3 ρ3 _ (R3.alloc hq) (.ref q) ?_
          unfold RV
          exact ⟨Nat.le_trans (cut_len _ _ _) hz, q, _, rfl, .of upd_same, RVs.later R3.cells (Lat.alloc hq) (rr.cut l u)⟩
      · rename_i z e1
        have hp := R3.head
        rw [rd_str e1] at hp
        obtain ⟨rfl, hz⟩ := hp.str
        refine sl_str pins _ σ H3 _ v vl vu l u _ Q I4 r1 hsl pl pu ⟨z, rfl, hz, ?_⟩
        have ec : cutS z l u = ⟨(cut z.cps.toList l u).toArray⟩ := by
          have el : z.cps.toList.length = z.length := by simp [Str.length]
          unfold cutS WT.cut
          rw [el]
        rw [ec]
        refine h3.ok R3 _ (.ofStr ?_)
        have : (cut z.cps.toList l u).length ≤ z.length := by
          have el : z.cps.toList.length = z.length := by simp [Str.length]
          rw [← el]
          exact cut_len _ _ _
        show (cut z.cps.toList l u).toArray.size ≤ sizeLine
        rw [List.size_toArray]
        omega
      · exact h3.elim
    obtain ⟨T', id, hT, ht, hg⟩ := key
    exact tail_any (ops := [.ref s3.heap.objs.size, v]) ht hT hg (by with_unfolding_all rfl)⟩

/-! ### [::-1] -/
theorem turned_apply {prog : Program} {w : World} {A : Around} {E : Value → Shared → Prop} {s : Shared} {sl : Addr} {t : Tok} {n : Nat} {Q : Int × Int × Nat → Shared → Prop} (hs : s.heap.IsSliceOf sl .none .none (.int (-1) t))
    (h : Q ((n : Int) - 1, -1, n) s) : wpAny (model prog w) A (Builtin.Slice.sliceApplied (.ref sl) (pure (n : Int))) Q E s := by
  obtain ⟨os, hos, hcs, hds⟩ := id hs
  unfold Builtin.Slice.sliceApplied Builtin.Slice.sliceFields
  refine wpAny_bind (wpAny_bind (wpAny_field hos hds (x := .none) rfl (wpAny_bind (wpAny_field hos hds (x := .none) rfl (wpAny_bind (wpAny_field hos hds (x := .int (-1) t) rfl (wpAny_pure ?_)))))))
  refine wpAny_bind (slicePart_int ?_)
  show wpAny _ _ (if ((-1 : Int) == 0) = true then _ else _) _ _ s
  rw [if_neg (by decide)]
  refine wpAny_bind (slicePart_none (wpAny_bind (slicePart_none (wpAny_bind (wpAny_pure ?_)))))
  have e1 : Builtin.Slice.sliceAdjust none none (-1) (n : Int) = ((n : Int) - 1, -1) := by
    unfold Builtin.Slice.sliceAdjust
    simp
  show wpAny _ _ (match Builtin.Slice.sliceAdjust none none (-1) (n : Int) with | (lo, hi) => pure (lo, (-1 : Int), Builtin.Slice.slicePlaces lo hi (-1))) _ _ s
  rw [e1]
  have e2 : Builtin.Slice.slicePlaces ((n : Int) - 1) (-1) (-1) = n := by
    unfold Builtin.Slice.slicePlaces
    simp
    split <;> omega
  show wpAny _ _ (pure ((n : Int) - 1, (-1 : Int), Builtin.Slice.slicePlaces ((n : Int) - 1) (-1) (-1))) _ _ s
  rw [e2]
  exact wpAny_pure h
theorem fm_congr {α β : Type} {f h : α → Option β} : ∀ {l : List α}, (∀ a ∈ l, f a = h a) → l.filterMap f = l.filterMap h
  | [], _ => rfl
  | a :: r, e => by
    rw [List.filterMap_cons, List.filterMap_cons, e a List.mem_cons_self, fm_congr fun b hb => e b (List.mem_cons_of_mem _ hb)]
theorem turned_pick (xs : Array Value) : ((List.range xs.size).filterMap fun (m : Nat) => xs[(((xs.size : Nat) : Int) - 1 + (m : Int) * (-1)).toNat]?).toArray = xs.toList.reverse.toArray := by
  congr 1
  have e : (List.range xs.size).filterMap (fun (m : Nat) => xs[(((xs.size : Nat) : Int) - 1 + (m : Int) * (-1)).toNat]?) = (List.range xs.size).filterMap (fun (m : Nat) => xs.toList.reverse[m]?) := by
    refine fm_congr fun m hm => ?_
    have hm : m < xs.size := List.mem_range.mp hm
    have e1 : (((xs.size : Nat) : Int) - 1 + (m : Int) * (-1)).toNat = xs.size - 1 - m := by omega
    rw [e1, List.getElem?_reverse (by simpa using hm)]
    simp
  rw [e]
  have e2 : (List.range xs.size).filterMap (fun (m : Nat) => xs.toList.reverse[m]?) = xs.toList.reverse := by
    have := PySem.W.krv_all xs.toList.reverse.toArray
    simpa using this
  rw [e2]
theorem turned_tuple {prog : Program} {w : World} {A : Around} {E : Value → Shared → Prop} {s : Shared} {t sl : Addr} {items : Array Value} {tk : Tok} {Q : Value → Shared → Prop} (ht : IsTup s.heap t items) (hs : s.heap.IsSliceOf sl .none .none (.int (-1) tk))
    (h : Q (.ref s.heap.objs.size) { s with heap := s.heap.push { cls := .type "tuple", data := .seq items.toList.reverse.toArray } })
    (hsz : items.size ≤ sizeLine) : wpAny (model prog w) A (getItem (.ref t) (.ref sl)) Q E s := by
  have htake : sizeOk (.seq items.toList.reverse.toArray) := by
    show items.toList.reverse.toArray.size ≤ sizeLine
    rw [List.size_toArray, List.length_reverse, Array.length_toList]
    exact hsz
  obtain ⟨os, hos, hcs, hds⟩ := id hs
  have hTs : s.TypeIs (.ref sl) "slice" := ⟨os, hos, hcs⟩
  unfold getItem
  try with_reducible refine wpAny_holding ?_
  first | refine wpAny_bind (wpAny_pure ?_) | skip
  refine wpAny_bind (wpAny_sequenceKey ht.typeIs (by decide) ?_)
  refine wpAny_bind (wpAny_callSpecial?_slot (name := Str.ofString "__getitem__") ht.typeIs PyProof.Rows.slot_tuple_getitem
    (wpAny_call_entry PyProof.Rows.slot_tuple_getitem ht.typeIs entry_tuple_getitem ?_ (args_tuple_getitem _ _)))
  show wpAny _ _ (Builtin.Tuple.tupleItemsOf (.ref t) >>= _) _ _ s
  refine wpAny_bind (tupleItemsOf_ ht ?_)
  refine wpAny_bind (wpAny_typeOf hTs ?_)
  rw [if_pos (by decide)]
  refine wpAny_bind (turned_apply hs ?_)
  have hno : ¬ (((((items.size : Nat) : Int) - 1) == 0 && (-1 : Int) == 1 && items.size == items.size) = true) := by
    intro q
    rw [Bool.and_eq_true, Bool.and_eq_true] at q
    exact absurd (eq_of_beq q.1.2) (by decide)
  show wpAny _ _ (if ((((items.size : Nat) : Int) - 1) == 0 && (-1 : Int) == 1 && items.size == items.size) = true then _ else _) _ _ s
  rw [if_neg hno, turned_pick]
  first
    | exact wpAny_bind (m := Builtin.Tuple.tupleExact _) (wpAny_newObj_type (wpAny_pure ⟨_, rfl, wpAny_pure h⟩) htake)
    | exact wpAny_bind (m := Builtin.Tuple.tupleExact _) (wpAny_newObj_type (wpAny_bind (wpAny_pure (wpAny_pure ⟨_, rfl, wpAny_pure h⟩))) htake)
    | exact wpAny_bind (wpAny_bind (m := Builtin.Tuple.tupleExact _) (wpAny_newObj_type (wpAny_pure (wpAny_pure ⟨_, rfl, wpAny_pure h⟩)) htake))
    | exact wpAny_bind (wpAny_bind (m := Builtin.Tuple.tupleExact _) (wpAny_newObj_type (wpAny_pure ⟨_, rfl, wpAny_pure h⟩) htake))
theorem se_rev {m : Bool} {ca : CE} {one : Expr} {kp : Nat} {p3 p4 : Pos} (hK : X.K = g.K) (ha : SE g W C X a ca) :
    SE g W C X (.Subscript a (.Slice none none (some (.UnaryOp .USub (.Constant (.int 1) kp p3) p4)) p2) pos) (.rev m ca) :=
  ⟨fun pins s σ H Q I ⟨ρ, M, ε, T, R, h⟩ => by
    refine Subscript_ (thn (ha.run pins s σ H (fun x H1 => ∃ ρ1 M1 p, Rl g ρ1 M1 H1 ε ((p, x) :: T) σ ∧ resW g W (revOf m p M1) ε T σ (EndQ g Q)) I (tR.of R h fun p ρ1 M1 H1 x R1 h1 => ⟨ρ1, M1, p, R1, h1⟩)) fun v s1 ⟨x, H1, I1, r1, ρ1, M1, p, R1, h1⟩ => ?_)
    refine wpAny_Slice (thn (po_none.run pins s1 σ H1 (fun l H2 => l = none ∧ H2 = H1) I1 ⟨rfl, rfl⟩) fun vl s2 ⟨l, H2, I2, pl, el, eh⟩ => ?_)
    subst el eh
    refine thn (po_none.run pins s2 σ H2 (fun l H3 => l = none ∧ H3 = H2) I2 ⟨rfl, rfl⟩) fun vu s3 ⟨l, H3, I3, pu, el, eh⟩ => ?_
    subst el eh
    rw [evalPart_some]
    refine thn ((pe_un (pos := p4) un_neg (pe_int (i := 1) (j := kp) (pos := p3) (X := X))).run pins s3 σ H3 (fun x H4 => x = .int (-1) ∧ H4 = H3) I3 ⟨1, rfl, rfl, rfl⟩) fun vs s4 ⟨y, H4, I4, ry, ey, eh⟩ => ?_
    subst ey eh
    obtain ⟨tk, rfl⟩ := ry
    have ev : vl = .none := by cases pl; rfl
    have eu : vu = .none := by cases pu; rfl
    subst ev eu
    have I5 : Inv X pins σ H4 { s4 with heap := s4.heap.push { cls := .type "slice", data := .fields #[.none, .none, .int (-1) tk] } } := I4.kept (t' := s4.toks) fun b ob q => Heap.get?_push_of_some _ q
    have hsl : { s4 with heap := s4.heap.push { cls := .type "slice", data := .fields #[.none, .none, .int (-1) tk] } }.heap.IsSliceOf s4.heap.objs.size .none .none (.int (-1) tk) := Heap.IsSliceOf.new ..
    have R0 := R1.head
    have Rt := R1.tail
    unfold revOf at h1
    split at h1
    · rename_i xs e1
      obtain ⟨hz, a1, vs, rfl, s1', rr⟩ := R1.listAt R0 e1
      cases (show v = Value.ref a1 from r1)
      obtain ⟨its, rv, ht, hz2⟩ := I5.list (hK ▸ s1'.sq)
      have hl := rv.length
      refine tail_any (ops := [.ref a1, .ref s4.heap.objs.size]) ht.isList.typeIs slot_list_getitem.lookup ?_ (by with_unfolding_all rfl)
      refine wpAny_getItem_list_slice ht.isList hsl .none .none (.int (-1) tk) (by decide) ?_ (by rw [List.size_toArray] <;> omega)
      rw [PySem.W.krv_pick]
      exact ⟨.ref _, _, I5.lnew (t' := s4.toks) (its := its.reverse) rv.reverse (by rw [List.length_reverse]; exact hz2), rfl, mkL_ok Rt (by rw [List.length_reverse]; exact hz) rr.reverse I5.fresh h1⟩
    · rename_i xs e1
      obtain ⟨hz, a1, vs, rfl, s1', rr⟩ := R1.tupAt R0 e1
      cases (show v = Value.ref a1 from r1)
      obtain ⟨its, rv, ht, hz2⟩ := I5.tuple (hK ▸ s1')
      have hl := rv.length
      refine tail_any (ops := [.ref a1, .ref s4.heap.objs.size]) ht.typeIs slot_tuple_getitem.lookup ?_ (by with_unfolding_all rfl)
      refine turned_tuple ht hsl ⟨.ref _, _, I5.laid (t' := s4.toks) (o := .tup vs.reverse) (fun b ob q => Heap.get?_push_of_some _ q) (Nat.le_refl _) ⟨by rw [List.length_reverse]; exact hz2, its.reverse, rv.reverse, IsTup.new _ _⟩, rfl, ?_⟩ (by rw [List.size_toArray] <;> omega)
      refine h1 ρ1 _ (Rt.alloc I5.fresh) (.ref _) ?_
      unfold RV
      exact ⟨by rw [List.length_reverse]; exact hz, _, _, rfl, .of upd_same, RVs.later Rt.cells (Lat.alloc I5.fresh) rr.reverse⟩
    · exact h1.elim⟩
end
end WT
set_option maxRecDepth 100000
set_option autoImplicit false
/-! Soundness, 7: built-in functions. -/
namespace WT
open PySem PySem.Spec PyProof.Rows L2

/-- a built-in function, by values -/
def rBf (g : Gx) (b : BF) (m : Bool) : List V → Hp → VK → Prop := fun vs H Q => ∃ W ρ M ε T σ ps, Rl g ρ M H ε T σ ∧ RVs g ρ M H ps vs ∧ resW g W (bfn b m ps M) ε T σ (EndQ g Q)
section
variable {g : Gx} {W : WX} {X : Cx} {m : Bool} {ρ : List Addr} {M : Mem} {H : Hp} {ε : Env} {T : List (PV × V)} {σ : SS}
theorem RVs.one_inv {p : PV} {vs : List V} (h : RVs g ρ M H [p] vs) : ∃ v, vs = [v] ∧ RV g ρ M H p v := by
  unfold RVs at h
  obtain ⟨v, s, rfl, h1, h2⟩ := h
  unfold RVs at h2
  subst h2
  exact ⟨v, rfl, h1⟩
theorem RVs.two_inv {p q : PV} {vs : List V} (h : RVs g ρ M H [p, q] vs) : ∃ v u, vs = [v, u] ∧ RV g ρ M H p v ∧ RV g ρ M H q u := by
  unfold RVs at h
  obtain ⟨v, s, rfl, h1, h2⟩ := h
  obtain ⟨u, rfl, h3⟩ := RVs.one_inv h2
  exact ⟨v, u, rfl, h1, h3⟩
/-- one argument -/
theorem arg1 {b : BF} {ps : List PV} {vs : List V} {Q : VK} (hv : RVs g ρ M H ps vs) (h : resW g W (bfn b m ps M) ε T σ (EndQ g Q)) (h0 : ∀ qs, qs.length ≠ 1 → bfn b m qs M = .stuck) : ∃ p v, ps = [p] ∧ vs = [v] ∧ RV g ρ M H p v := by
  match ps, hv, h with
  | [], _, h => rw [h0 [] (by decide)] at h; exact h.elim
  | p :: q :: r, _, h => rw [h0 (p :: q :: r) (by simp)] at h; exact h.elim
  | [p], hv, h =>
    obtain ⟨v, rfl, hp⟩ := hv.one_inv
    exact ⟨p, v, rfl, rfl, hp⟩
/-- without slots -/
theorem Rl.blank (R : Rl g ρ M H ε T σ) (σ' : SS) : Rl g ρ M H (List.replicate σ'.length none) T σ' := R.envs (by simp) fun i p e => by
  rw [List.getElem?_replicate] at e
  split at e <;> cases e
theorem RVd.length : ∀ {ps : List (PV × PV)} {vs : List (Key × V)}, RVd g ρ M H ps vs → ps.length = vs.length
  | [], _, h => by unfold RVd at h; subst h; rfl
  | (k, x) :: r, _, h => by
    unfold RVd at h
    obtain ⟨j, v, s, rfl, _, _, h2⟩ := h
    simp [RVd.length h2]
theorem b_len (hK : X.K = g.K) : CallR X (.builtin "len") (rBf g .len m) := by
  intro pins s σ0 H vs us Q I r ⟨W, ρ, M, ε, T, σ, ps, R, hv, h⟩
  obtain ⟨p, v, rfl, rfl, hp⟩ := arg1 hv h fun qs hq => match qs, hq with
    | [], _ => rfl
    | [_], hq => absurd rfl hq
    | p :: _ :: _, _ => by cases p <;> rfl
  have h : resW g W (ofOpt M ((lenOf M p).map fun n => .int n)) ε T σ (EndQ g Q) := h
  obtain ⟨q, e, h⟩ := ofOpt_ok h
  unfold lenOf at e
  split at e
  · rename_i z e1
    cases e
    rw [rd_str e1] at hp
    obtain ⟨rfl, hz⟩ := hp.str
    exact call_len_str pins s σ0 H _ us Q I r ⟨z, rfl, hz, h.ok R _ (.ofInt _)⟩
  · rename_i xs e1
    cases e
    obtain ⟨_, a1, ws, rfl, s1, rr⟩ := R.listAt hp e1
    exact call_len_seq pins s σ0 H _ us Q I r ⟨a1, ws, rfl, .inl (hK ▸ s1.sq), by rw [← rr.length]; exact h.ok R _ (.ofInt _)⟩
  · rename_i xs e1
    cases e
    obtain ⟨_, a1, ws, rfl, s1, rr⟩ := R.tupAt hp e1
    exact call_len_seq pins s σ0 H _ us Q I r ⟨a1, ws, rfl, .inr (hK ▸ s1), by rw [← rr.length]; exact h.ok R _ (.ofInt _)⟩
  · rename_i kvs e1
    cases e
    obtain ⟨a1, kws, rfl, s1, rr⟩ := R.dictAt hp e1
    obtain ⟨u, rfl, r1⟩ := vals1 r
    cases (show u = Value.ref a1 from r1)
    exact d_len I s1 fun t s' I' => ⟨.int kws.length, H, I', ⟨t, rfl⟩, by rw [← rr.length]; exact h.ok R _ (.ofInt _)⟩
  · cases e
theorem b_str : CallR X (.type "str") (rBf g .strOf m) := by
  intro pins s σ0 H vs us Q I r ⟨W, ρ, M, ε, T, σ, ps, R, hv, h⟩
  obtain ⟨p, v, rfl, rfl, hp⟩ := arg1 hv h fun qs hq => match qs, hq with
    | [], _ => rfl
    | [_], hq => absurd rfl hq
    | p :: _ :: _, _ => by cases p <;> rfl
  cases p with
  | str x =>
    obtain ⟨rfl, hz⟩ := hp.str
    exact SkE.call_str_str pins s σ0 H _ us Q I r ⟨x, rfl, resW.ok (p := PV.str x) h R _ (.ofStr hz)⟩
  | int i =>
    cases hp.int
    obtain ⟨c, h⟩ := guard_ok (c := decide (i.natAbs.log2 < 1920)) h
    have hl : i.natAbs.log2 < 1920 := of_decide_eq_true c
    exact call_str_int pins s σ0 H _ us Q I r ⟨i, rfl, hl, h.ok R _ (.ofStr (int_text_fits hl))⟩
  | _ => exact h.elim
theorem b_int : CallR X (.type "int") (rBf g .intOf m) := by
  intro pins s σ0 H vs us Q I r ⟨W, ρ, M, ε, T, σ, ps, R, hv, h⟩
  obtain ⟨p, v, rfl, rfl, hp⟩ := arg1 hv h fun qs hq => match qs, hq with
    | [], _ => rfl
    | [_], hq => absurd rfl hq
    | p :: _ :: _, _ => by cases p <;> rfl
  cases p with
  | int i =>
    cases hp.int
    exact call_int1 pins s σ0 H _ us Q I r (.inl ⟨i, rfl, resW.ok (p := PV.int i) h R _ (.ofInt _)⟩)
  | bl b =>
    cases hp.bl
    exact call_int1 pins s σ0 H _ us Q I r (.inr ⟨b, rfl, resW.ok (p := PV.int (if b then 1 else 0)) h R _ (.ofInt _)⟩)
  | _ => exact h.elim
/-- the items of a list or tuple -/
theorem seqOf_at (hK : X.K = g.K) (R : Rl g ρ M H ε T σ) {p : PV} {v : V} {xs : List PV} (hp : RV g ρ M H p v) (e : seqOf M p = some xs) : xs.length ≤ sizeLine ∧ ∃ a vs, v = .ref a ∧ (SqL X.K H a vs ∨ SqT X.K H a vs) ∧ RVs g ρ M H xs vs := by
  unfold seqOf at e
  split at e
  · rename_i ys e1
    cases e
    obtain ⟨hz, a1, ws, rfl, s1, rr⟩ := R.listAt hp e1
    exact ⟨hz, a1, ws, rfl, .inl (hK ▸ s1.sq), rr⟩
  · rename_i ys e1
    cases e
    obtain ⟨hz, a1, ws, rfl, s1, rr⟩ := R.tupAt hp e1
    exact ⟨hz, a1, ws, rfl, .inr (hK ▸ s1), rr⟩
  · cases e
theorem rvs_keys : ∀ (kvs : List (PV × PV)) (kws : List (Key × V)), RVd g ρ M H kvs kws → (kvs.all fun kv => keyFits kv.1) = true → RVs g ρ M H (kvs.map (·.1)) (kws.map fun kv => kV kv.1)
  | [], kws, h, _ => by
    unfold RVd at h
    subst h
    unfold RVs
    rfl
  | (k, x) :: r, kws, h, hf => by
    unfold RVd at h
    obtain ⟨j, v, s, rfl, rfl, h1, h2⟩ := h
    rw [List.all_cons, Bool.and_eq_true] at hf
    refine RVs.cons ?_ (rvs_keys r s h2 hf.2)
    cases j with
    | inl i => exact .ofInt _
    | inr z => exact .ofStr (by have := of_decide_eq_true hf.1; rw [sizeLine_eq]; unfold sline at this; omega)
theorem b_list (hK : X.K = g.K) (hc : X.calm = true) : CallR X (.type "list") (rBf g .listOf m) := by
  intro pins s σ0 H vs us Q I r ⟨W, ρ, M, ε, T, σ, ps, R, hv, h⟩
  obtain ⟨p, v, rfl, rfl, hp⟩ := arg1 hv h fun qs hq => match qs, hq with
    | [], _ => rfl
    | [_], hq => absurd rfl hq
    | p :: _ :: _, _ => by cases p <;> rfl
  have h : resW g W (match seqOf M p with
    | some xs => mkL m xs M
    | none => keysOf m p M) ε T σ (EndQ g Q) := h
  split at h
  · rename_i xs e
    obtain ⟨hz, a1, ws, rfl, sq, rr⟩ := seqOf_at hK R hp e
    exact call_list_of pins s σ0 H _ us Q I r ⟨a1, ws, rfl, sq, fun l hl => mkL_ok R hz rr hl h⟩
  · unfold keysOf at h
    split at h
    · rename_i kvs e
      obtain ⟨c, h⟩ := guard_ok h
      rw [Bool.and_eq_true, decide_eq_true_eq] at c
      obtain ⟨a1, kws, rfl, s1, rr⟩ := R.dictAt hp e
      exact call_listD hc pins s σ0 H _ us Q I r ⟨a1, kws, rfl, s1, fun l hl => mkL_ok R (by rw [List.length_map, sizeLine_eq]; have := c.1; unfold sline at this; omega) (rvs_keys kvs kws rr c.2) hl h⟩
    · exact h.elim
theorem b_tuple (hK : X.K = g.K) : CallR X (.type "tuple") (rBf g .tupleOf m) := by
  intro pins s σ0 H vs us Q I r ⟨W, ρ, M, ε, T, σ, ps, R, hv, h⟩
  obtain ⟨p, v, rfl, rfl, hp⟩ := arg1 hv h fun qs hq => match qs, hq with
    | [], _ => rfl
    | [_], hq => absurd rfl hq
    | p :: _ :: _, _ => by cases p <;> rfl
  have h : resW g W (match seqOf M p with
    | some xs => .ok (.tup xs) M
    | none => .stuck) ε T σ (EndQ g Q) := h
  split at h
  · rename_i xs e
    obtain ⟨hz, a1, ws, rfl, sq, rr⟩ := seqOf_at hK R hp e
    rcases sq with sq | sq
    · refine call_tuple_of pins s σ0 H _ us Q I r ⟨a1, ws, rfl, .inl ⟨sq, fun l hl => ?_⟩⟩
      refine h ρ _ (R.alloc hl) (.ref l) ?_
      unfold RV
      exact ⟨hz, l, _, rfl, .of upd_same, RVs.later R.cells (Lat.alloc hl) rr⟩
    · refine call_tuple_of pins s σ0 H _ us Q I r ⟨a1, ws, rfl, .inr ⟨sq, h.ok R _ ?_⟩⟩
      unfold RV
      exact ⟨hz, a1, ws, rfl, hK ▸ sq, rr⟩
  · exact h.elim
theorem two_ints {b : BF} (hb : b = .maxOf ∨ b = .minOf) {ps : List PV} {vs : List V} {Q : VK} (hv : RVs g ρ M H ps vs) (h : resW g W (bfn b m ps M) ε T σ (EndQ g Q)) : ∃ i j, ps = [.int i, .int j] ∧ vs = [.int i, .int j] := by
  match ps, hv, h with
  | [], _, h => rcases hb with rfl | rfl <;> exact h.elim
  | [p], _, h => rcases hb with rfl | rfl <;> (cases p <;> exact h.elim)
  | p :: q :: x :: r, _, h => rcases hb with rfl | rfl <;> (cases p <;> cases q <;> exact h.elim)
  | [p, q], hv, h =>
    obtain ⟨v, u, rfl, hp, hq⟩ := hv.two_inv
    rcases hb with rfl | rfl <;> (cases p <;> cases q <;> first | exact h.elim | (cases hp.int; cases hq.int; exact ⟨_, _, rfl, rfl⟩))
theorem b_max (hc : X.calm = true) : CallR X (.builtin "max") (rBf g .maxOf m) := by
  intro pins s σ0 H vs us Q I r ⟨W, ρ, M, ε, T, σ, ps, R, hv, h⟩
  obtain ⟨i, j, rfl, rfl⟩ := two_ints (.inl rfl) hv h
  exact call_max2 hc pins s σ0 H _ us Q I r ⟨i, j, rfl, resW.ok (p := PV.int (if j > i then j else i)) h R _ (.ofInt _)⟩
theorem b_min (hc : X.calm = true) : CallR X (.builtin "min") (rBf g .minOf m) := by
  intro pins s σ0 H vs us Q I r ⟨W, ρ, M, ε, T, σ, ps, R, hv, h⟩
  obtain ⟨i, j, rfl, rfl⟩ := two_ints (.inr rfl) hv h
  exact call_min2 hc pins s σ0 H _ us Q I r ⟨i, j, rfl, resW.ok (p := PV.int (if j < i then j else i)) h R _ (.ofInt _)⟩
/-- repr -/
theorem b_repr (hK : X.K = g.K) (hg : X.A.guards = some []) (hu : X.A.units + 65 < cLine) : CallR X (.builtin "repr") (rBf g .repr m) := by
  intro pins s σ0 H vs us Q I r ⟨W, ρ, M, ε, T, σ, ps, R, hv, h⟩
  obtain ⟨p, v, rfl, rfl, hp⟩ := arg1 hv h fun qs hq => match qs, hq with
    | [], _ => rfl
    | [_], hq => absurd rfl hq
    | p :: _ :: _, _ => by cases p <;> rfl
  have h : resW g W (ofOpt M ((deep M p).bind fun d => if reprOk p d then some (.str d.shown) else none)) ε T σ (EndQ g Q) := h
  obtain ⟨q, e, h⟩ := ofOpt_ok h
  cases ed : deep M p with
  | none => rw [ed] at e; cases e
  | some d =>
    rw [ed] at e
    have e : (if reprOk p d = true then some (PV.str d.shown) else none) = some q := e
    split at e
    · rename_i ok
      cases e
      unfold reprOk at ok
      rw [Bool.and_eq_true, Bool.and_eq_true, Bool.and_eq_true] at ok
      obtain ⟨k1, k2, k3, k4⟩ := ok
      have hz : d.shown.length ≤ sizeLine := by rw [← sline_eq]; exact of_decide_eq_true k4
      have hd : d.depth ≤ 60 := of_decide_eq_true k3
      obtain ⟨u, rfl, r1⟩ := vals1 r
      have hrd : ∃ as, Reads s.heap u d as ∧ (d.hasDict = true → sysModules ∉ as) := by
        cases q : d.hasDict with
        | false =>
          obtain ⟨as, rd⟩ := deep_reads hK I (R.blank σ0) ed hp r1
          exact ⟨as, rd, fun z => nomatch z⟩
        | true =>
          rw [q] at k2
          obtain ⟨as, rd, ns⟩ := nl_reads hK I p d v u k2 ed hp r1
          exact ⟨as, rd, fun _ => ns⟩
      obtain ⟨as, rd, hsm⟩ := hrd
      have hQ : Q (.str d.shown) H := h.ok R _ (.ofStr hz)
      cases rd with
      | none => exact PySem.P.repr_of_none ⟨.str _, H, I.tok _, ⟨_, rfl⟩, hQ⟩
      | bool b => exact PySem.P.repr_of_bool ⟨.str _, H, I.tok _, ⟨_, rfl⟩, by simpa only [PyData.shown] using hQ⟩
      | int i t => exact PySem.P.repr_of_int (by simpa [PyData.showable] using k1) ⟨.str _, H, I.tok _, ⟨_, rfl⟩, by simpa only [PyData.shown] using hQ⟩
      | str x t => exact PySem.P.repr_of_str ⟨.str _, H, I.tok _, ⟨_, rfl⟩, by simpa only [PyData.shown] using hQ⟩ (by simpa only [PyData.shown] using hz)
      | list h1 h2 h3 h4 => exact repr_of_reads' (.list h1 h2 h3 h4) k1 hsm hg (by omega) (fun _ _ z => z) (fun h' u tk k => ⟨.str _, H, I.kept k, ⟨_, rfl⟩, hQ⟩) hz
      | tuple h1 h2 h3 h4 => exact repr_of_reads' (.tuple h1 h2 h3 h4) k1 hsm hg (by omega) (fun _ _ z => z) (fun h' u tk k => ⟨.str _, H, I.kept k, ⟨_, rfl⟩, hQ⟩) hz
      | dict h1 h2 h3 h4 h5 => exact repr_of_reads' (.dict h1 h2 h3 h4 h5) k1 hsm hg (by omega) (fun _ _ z => z) (fun h' u tk k => ⟨.str _, H, I.kept k, ⟨_, rfl⟩, hQ⟩) hz
    · cases e
end
end WT
set_option maxRecDepth 100000
set_option autoImplicit false
/-! Soundness, 8: calls of built-in functions, methods of built-in types. -/
namespace WT
open PySem PySem.Spec PyProof.Rows L2

section
variable {g : Gx} {W : WX} {C : Ctx} {X : Cx} {m : Bool} {b : BF} {e : Expr} {es : List Expr} {cs : List CE} {x : Str} {p pos : Pos} {id T : String}
theorem se_bfnB (hc : CallR X (.builtin id) (rBf g b m)) (hg : Gl X x) (hm : X.mg x = none) (hv : bootBuiltins x = some (.builtin id)) (ha : SA g W C X (e :: es) cs) (hn : x ≠ "__name__") (hdb : (x == ("__debug__" : Str)) = false)
    (he : starEach (e :: es) X.env = (false, eval e X.env) :: starEach es X.env) (hpl : (backTo pos (starEach es X.env)).any (·.1) = false) : SE g W C X (.Call (.Name x p) (e :: es) [] pos) (.bfn b m cs) :=
  ⟨fun pins s σ H Q I ⟨ρ, M, ε, T, R, h⟩ => (pe_callB hc hg hm hv ha hn hdb he hpl).run pins s σ H Q I (tRs.of R h fun ps ρ1 M1 H1 vs R1 rv h1 => ⟨W, ρ1, M1, ε, T, σ, ps, R1, rv, h1⟩)⟩
theorem se_bfnT (hc : CallR X (.type T) (rBf g b m)) (hg : Gl X x) (hm : X.mg x = none) (hv : bootBuiltins x = some (.type T)) (ha : SA g W C X (e :: es) cs) (hn : x ≠ "__name__") (hdb : (x == ("__debug__" : Str)) = false)
    (he : starEach (e :: es) X.env = (false, eval e X.env) :: starEach es X.env) (hpl : (backTo pos (starEach es X.env)).any (·.1) = false) : SE g W C X (.Call (.Name x p) (e :: es) [] pos) (.bfn b m cs) :=
  ⟨fun pins s σ H Q I ⟨ρ, M, ε, T, R, h⟩ => (pe_callTy hc hg hm hv ha hn hdb he hpl).run pins s σ H Q I (tRs.of R h fun ps ρ1 M1 H1 vs R1 rv h1 => ⟨W, ρ1, M1, ε, T, σ, ps, R1, rv, h1⟩)⟩

/-! ### methods -/
def rBm (g : Gx) (b : BM) (m : Bool) : V → List V → Hp → VK → Prop := fun x vs H Q => ∃ W ρ M ε T σ p ps, Rl g ρ M H ε T σ ∧ RV g ρ M H p x ∧ RVs g ρ M H ps vs ∧ resW g W (bmeth b m p ps M) ε T σ (EndQ g Q)
/-- a value of such a kind is of the type -/
def BmTy (b : BM) (T : String) : Prop := (T = "list" ∧ ∀ x, bmOk b x = true → ∃ xs, x = .lst xs) ∨ (T = "str" ∧ ∀ x, bmOk b x = true → ∃ z, x = .str z) ∨ (T = "dict" ∧ ∀ x, bmOk b x = true → ∃ kvs, x = .dic kvs)
theorem bm_ty (hK : X.K = g.K) {b : BM} {ρ : List Addr} {M : Mem} {H : Hp} {ε : Env} {T' : List (PV × V)} {σ : SS} {pins : List (Addr × Obj)} {s : Shared} {p : PV} {x : V} {v : Value} (hb : BmTy b T) (I : Inv X pins σ H s) (rx : RelV x v) (R : Rl g ρ M H ε T' σ) (hp : RV g ρ M H p x) (e : bmOk b (rd M p) = true) :
    s.TypeIs v T ∧ ∀ a, v = .ref a → ∃ ob, s.heap.get? a = some ob ∧ ob.dict = none := by
  rcases hb with ⟨rfl, h⟩ | ⟨rfl, h⟩ | ⟨rfl, h⟩
  · obtain ⟨xs, e1⟩ := h _ e
    obtain ⟨_, a, vs, rfl, s1, _⟩ := R.listAt hp e1
    exact tyV_is I rx (.inl ⟨rfl, vs, hK ▸ s1.sq⟩)
  · obtain ⟨z, e1⟩ := h _ e
    rw [rd_str e1] at hp
    obtain ⟨rfl, _⟩ := hp.str
    exact tyV_is (T := "str") I rx rfl
  · obtain ⟨kvs, e1⟩ := h _ e
    obtain ⟨a, kws, rfl, s1, _⟩ := R.dictAt hp e1
    cases (show v = Value.ref a from rx)
    obtain ⟨_, hd, vs, rel, dd⟩ := dk_rd I.hok s1
    refine ⟨dd.typeIs, fun a' ea => ?_⟩
    cases ea
    obtain ⟨ob, es, ep, h1, h2, _⟩ := dd
    exact ⟨ob, h1, h2.2.1⟩
variable {o : Expr} {co : CE} {name : Str} {apos cpos : Pos}
theorem se_bme0 (hK : X.K = g.K) {b : BM} (hb : BmTy b T) (pa : PlainAttrs T) (slot : Slot T name id) (hty : typeOf (.builtin id) = pure (.type "method_descriptor")) (hm : MtR X id (rBm g b m)) (ho : SE g W C X o co)
    (hbase : attributeBase o name X.env (eval o X.env) = eval o X.env) (hline : (apos.endLine == cpos.line) = true) : SE g W C X (.Call (.Attribute o name apos) [] [] cpos) (.bme co b m []) :=
  ⟨fun pins s σ H Q I ⟨ρ, M, ε, T', R, h⟩ => by
    refine wpAny_Call_method0_late hbase hline (thn (ho.run pins s σ H (fun x H1 => ∃ ρ1 M1 p, Rl g ρ1 M1 H1 ε ((p, x) :: T') σ ∧ resW g W (match bmOk b (rd M1 p) with
      | true => (evs C [] ε M1).bind fun vs M => bmeth b m p vs M
      | false => .stuck) ε T' σ (EndQ g Q)) I (tR.of R h fun p ρ1 M1 H1 x R1 h1 => ⟨ρ1, M1, p, R1, h1⟩)) fun v s1 ⟨x, H1, I1, r1, ρ1, M1, p, R1, h1⟩ => ?_)
    split at h1
    · rename_i e1
      obtain ⟨t1, t2⟩ := bm_ty hK hb I1 r1 R1 R1.head e1
      exact ⟨T, id, pa, slot, hty, t1, t2, Calls.callWith_builtin rfl (PySem.evalArgs_none (hm pins s1 σ H1 x [] v [] Q I1 r1 .nil ⟨W, ρ1, M1, ε, T', σ, p, [], R1.tail, R1.head, .nil, h1⟩))⟩
    · exact h1.elim⟩
theorem se_bme (hK : X.K = g.K) {b : BM} (hb : BmTy b T) (pa : PlainAttrs T) (slot : Slot T name id) (hty : typeOf (.builtin id) = pure (.type "method_descriptor")) (hm : MtR X id (rBm g b m)) (ho : SE g W C X o co) (ha : SA g W C X (e :: es) cs)
    (hbase : attributeBase o name X.env (eval o X.env) = eval o X.env)
    (hfew : ((backTo cpos (starEach (e :: es) X.env)).all (fun x => !x.1) && (backToKw cpos (keywordEach [] X.env)).all (fun x => x.1.isSome)
      && decide ((e :: es).length + ([] : List Keyword).length + (if ([] : List Keyword).isEmpty then 0 else 1) < 30)) = true)
    (hline : (apos.endLine == cpos.line) = true) (hs : starEach (e :: es) X.env = (false, eval e X.env) :: starEach es X.env) (hpl : (backTo cpos (starEach es X.env)).any (·.1) = false) : SE g W C X (.Call (.Attribute o name apos) (e :: es) [] cpos) (.bme co b m cs) :=
  ⟨fun pins s σ H Q I ⟨ρ, M, ε, T', R, h⟩ => by
    refine wpAny_Call_method_late hbase hfew hline rfl (thn (ho.run pins s σ H (fun x H1 => ∃ ρ1 M1 p, Rl g ρ1 M1 H1 ε ((p, x) :: T') σ ∧ resW g W (match bmOk b (rd M1 p) with
      | true => (evs C cs ε M1).bind fun vs M => bmeth b m p vs M
      | false => .stuck) ε T' σ (EndQ g Q)) I (tR.of R h fun p ρ1 M1 H1 x R1 h1 => ⟨ρ1, M1, p, R1, h1⟩)) fun v s1 ⟨x, H1, I1, r1, ρ1, M1, p, R1, h1⟩ => ?_)
    split at h1
    · rename_i e1
      obtain ⟨t1, t2⟩ := bm_ty hK hb I1 r1 R1 R1.head e1
      refine ⟨T, id, pa, slot, hty, t1, t2, ?_⟩
      have hA := ha.run cpos pins s1 σ H1 (fun vs H2 => rBm g b m x vs H2 Q) I1 (tRs.of R1 (h1.more fun q hq => List.mem_cons_of_mem _ hq) fun ps ρ2 M2 H2 vs R2 rv h2 => ⟨W, ρ2, M2, ε, (p, x) :: T', σ, p, ps, R2, R2.head, rv, h2⟩)
      rw [hs] at hA ⊢
      refine Calls.callWith_builtin (by show (false || (backTo cpos (starEach es X.env)).any (·.1)) = false; rw [hpl] <;> rfl) (Calls.evalArgs_plain ?_)
      exact thn hA fun us s2 ⟨vs, H2, I2, r2, q2⟩ => hm pins s2 σ H2 x vs v us Q I2 r1 r2 q2
    · exact h1.elim⟩

/-! ### the methods -/
section
variable {b : BM}
/-- a cell that holds a list -/
theorem cell_lst {ρ : List Addr} {M : Mem} {H : Hp} {ε : Env} {T' : List (PV × V)} {σ : SS} {i : Nat} {x : V} {xs : List PV} (R : Rl g ρ M H ε T' σ) (hp : RV g ρ M H (.ref i) x) (e : M[i]? = some (.lst xs)) :
    ∃ a vs, x = .ref a ∧ ρ[i]? = some a ∧ xs.length ≤ sizeLine ∧ H a = some (.lst vs) ∧ RVs g ρ M H xs vs := by
  unfold RV at hp
  obtain ⟨a, rfl, hi⟩ := hp
  obtain ⟨z, vs, h1, h2⟩ := R.cel i a _ hi e
  exact ⟨a, vs, rfl, hi, z, h1, h2⟩
/-- the list in a cell changes -/
theorem put_lst {ρ : List Addr} {M : Mem} {H : Hp} {ε : Env} {T' : List (PV × V)} {σ : SS} {i : Nat} {a : Addr} {xs ys : List PV} {us : List V} (R : Rl g ρ M H ε T' σ) (hi : ρ[i]? = some a) (e : M[i]? = some (.lst xs)) (hz : ys.length ≤ sizeLine) (h : RVs g ρ M H ys us) :
    Rl g ρ (M.set i (.lst ys)) (upd H a (.lst us)) ε T' σ ∧ Lat ρ M H ρ (M.set i (.lst ys)) (upd H a (.lst us)) :=
  have l : Lat ρ M H ρ (M.set i (.lst ys)) (upd H a (.lst us)) := Lat.put hi e (fun z => nomatch z)
  ⟨R.put hi e (fun z => nomatch z) ⟨hz, us, upd_same, RVs.later R.cells l h⟩, l⟩
theorem m_append : MtR X "list.append" (rBm g .append m) := by
  intro pins s σ0 H x vs v us Q I rx rv ⟨W, ρ, M, ε, T, σ, p, ps, R, hp, hv, h⟩
  match p, ps, hp, hv, h with
  | .ref i, [q], hp, hv, h =>
    have h : resW g W (match M[i]? with
      | some (.lst xs) => WT.guard (decide (xs.length < sline)) (.ok .non (M.set i (.lst (xs ++ [q]))))
      | _ => .stuck) ε T σ (EndQ g Q) := h
    split at h
    · rename_i xs e
      obtain ⟨c, h⟩ := guard_ok h
      have hz : xs.length < sizeLine := by rw [← sline_eq]; exact of_decide_eq_true c
      obtain ⟨a, ws, rfl, hi, _, hH, rr⟩ := cell_lst R hp e
      obtain ⟨y, rfl, hy⟩ := hv.one_inv
      obtain ⟨R', _⟩ := put_lst R hi e (ys := xs ++ [q]) (us := ws ++ [y]) (by rw [List.length_append, List.length_singleton]; omega) (rr.append (.one hy))
      exact mt_append pins s σ0 H _ _ v us Q I rx rv ⟨a, ws, y, rfl, rfl, hH, by rw [← rr.length]; exact hz, h.ok R' _ .ofNon⟩
    · exact h.elim
  | .ref i, [], _, _, h => exact h.elim
  | .ref i, _ :: _ :: _, _, _, h => exact h.elim
  | .non, _, _, _, h => exact h.elim
  | .bl _, _, _, _, h => exact h.elim
  | .int _, _, _, _, h => exact h.elim
  | .str _, _, _, _, h => exact h.elim
  | .tup _, _, _, _, h => exact h.elim
  | .lst _, _, _, _, h => exact h.elim
  | .dic _, _, _, _, h => exact h.elim
  | .ins _ _, _, _, _, h => exact h.elim
  | .exc _ _, _, _, _, h => exact h.elim
  | .cls _, _, _, _, h => exact h.elim
  | .fn _, _, _, _, h => exact h.elim
  | .ty _, _, _, _, h => exact h.elim
  | .lk _ _ _, _, _, _, h => exact h.elim
theorem m_extend (hK : X.K = g.K) : MtR X "list.extend" (rBm g .extend m) := by
  intro pins s σ0 H x vs v us Q I rx rv ⟨W, ρ, M, ε, T, σ, p, ps, R, hp, hv, h⟩
  unfold bmeth at h
  split at h <;> try (rename_i hb; exact BM.noConfusion hb)
  · rename_i i y _
    split at h
    · rename_i xs ys e e2
      obtain ⟨c, h⟩ := guard_ok h
      have hz : xs.length + ys.length ≤ sizeLine := by rw [← sline_eq]; exact of_decide_eq_true c
      obtain ⟨a, ws, rfl, hi, _, hH, rr⟩ := cell_lst R hp e
      obtain ⟨w, rfl, hy⟩ := hv.one_inv
      obtain ⟨_, a2, zs, rfl, s2, r2⟩ := R.listAt hy e2
      have l1 := rr.length
      have l2 := r2.length
      obtain ⟨R', _⟩ := put_lst R hi e (ys := xs ++ ys) (us := ws ++ zs) (by rw [List.length_append]; exact hz) (rr.append r2)
      cases rx
      obtain ⟨u, rfl, ru⟩ := rv.one
      cases ru
      obtain ⟨_, its, n, q1, hl, eo⟩ := I.lstM hH
      obtain ⟨_, its2, n2, q2, eo2⟩ := (hK.symm ▸ s2 : LQ X.K H a2 zs).obj I
      have l3 := q2.length
      have hsum : its.toArray.size + its2.toArray.size ≤ sizeLine := by
        have e1 : its.toArray.size = its.length := List.size_toArray ..
        have e2 : its2.toArray.size = its2.length := List.size_toArray ..
        omega
      have hlong : ¬ (!its.toArray.isEmpty && Builtin.List.listTooLong (its.toArray.size + its2.toArray.size)) = true := by
        rw [notLongL hsum, Bool.and_false]
        exact Bool.false_ne_true
      refine call_meets F.slot_list_extend ⟨_, eo, rfl⟩ F.entry_list_extend (F.args_list_extend_2 _ _) (AutoSeq1.list_extend_list_list_0 a its.toArray n a2 its2.toArray n2 hlong (by omega) (by omega)) ⟨eo, eo2, ?_⟩
      exact ⟨.non, _, I.lset (its' := its ++ its2) hH eo (by simp) (q1.append q2) (by rw [List.length_append]; omega), rfl, h.ok R' _ .ofNon⟩
    · exact h.elim
  · exact h.elim
theorem m_pop : MtR X "list.pop" (rBm g .pop m) := by
  intro pins s σ0 H x vs v us Q I rx rv ⟨W, ρ, M, ε, T, σ, p, ps, R, hp, hv, h⟩
  unfold bmeth at h
  split at h <;> try (rename_i hb; exact BM.noConfusion hb)
  · rename_i i _
    split at h
    · rename_i xs e
      split at h
      · rename_i q e2
        obtain ⟨a, ws, rfl, hi, hz, hH, rr⟩ := cell_lst R hp e
        have hvs : vs = [] := by unfold RVs at hv; exact hv
        subst hvs
        rw [List.getLast?_eq_getElem?] at e2
        obtain ⟨y, e3, hy⟩ := rr.get e2
        obtain ⟨R', l⟩ := put_lst R hi e (ys := xs.dropLast) (us := ws.dropLast) (by rw [List.length_dropLast]; omega) (by rw [List.dropLast_eq_take, List.dropLast_eq_take, rr.length]; exact rr.take _)
        exact mt_pop pins s σ0 H _ _ v us Q I rx rv ⟨a, ws, y, rfl, rfl, hH, by rw [← rr.length]; exact e3, h.ok R' _ (hy.later R.cells l)⟩
      · exact h.elim
    · exact h.elim
  · exact h.elim
theorem m_clear : MtR X "list.clear" (rBm g .clear m) := by
  intro pins s σ0 H x vs v us Q I rx rv ⟨W, ρ, M, ε, T, σ, p, ps, R, hp, hv, h⟩
  unfold bmeth at h
  split at h <;> try (rename_i hb; exact BM.noConfusion hb)
  · rename_i i _
    split at h
    · rename_i xs e
      obtain ⟨a, ws, rfl, hi, hz, hH, rr⟩ := cell_lst R hp e
      have hvs : vs = [] := by unfold RVs at hv; exact hv
      subst hvs
      obtain ⟨R', l⟩ := put_lst R hi e (ys := []) (us := []) (Nat.zero_le _) .nil
      exact mt_clear pins s σ0 H _ _ v us Q I rx rv ⟨a, ws, rfl, rfl, hH, h.ok R' _ .ofNon⟩
    · exact h.elim
  · exact h.elim
theorem strs_V {ρ : List Addr} {M : Mem} {H : Hp} : ∀ {ps : List PV} {vs : List V} {xs : List Str}, strsOf ps = some xs → RVs g ρ M H ps vs → vs = xs.map V.str ∧ ps.length = xs.length
  | [], _, xs, e, h => by
    cases e
    unfold RVs at h
    exact ⟨h, rfl⟩
  | p :: r, _, xs, e, h => by
    unfold RVs at h
    obtain ⟨v, s, rfl, h1, h2⟩ := h
    cases p with
    | str z =>
      have e : (strsOf r).map (z :: ·) = some xs := e
      cases er : strsOf r with
      | none => rw [er] at e; cases e
      | some ys =>
        rw [er] at e
        cases e
        obtain ⟨e1, e2⟩ := strs_V er h2
        exact ⟨by rw [h1.str.1, e1]; rfl, by simp [e2]⟩
    | _ => cases e
theorem m_join (hK : X.K = g.K) : MtR X "str.join" (rBm g .join m) := by
  intro pins s σ0 H x vs v us Q I rx rv ⟨W, ρ, M, ε, T, σ, p, ps, R, hp, hv, h⟩
  unfold bmeth at h
  split at h <;> try (rename_i hb; exact BM.noConfusion hb)
  · rename_i z y _
    split at h
    · rename_i xs e
      obtain ⟨c, h⟩ := guard_ok h
      rw [Bool.and_eq_true] at c
      obtain ⟨rfl, hz⟩ := hp.str
      obtain ⟨w, rfl, hy⟩ := hv.one_inv
      cases e1 : seqOf M y with
      | none => rw [e1] at e; cases e
      | some qs =>
        rw [e1] at e
        obtain ⟨_, a1, ws, rfl, sq, rr⟩ := seqOf_at hK R hy e1
        obtain ⟨rfl, _⟩ := strs_V e rr
        have hs : (xs.map (·.length)).sum + xs.length * z.length ≤ 16777216 := of_decide_eq_true c.1
        exact mt_join pins s σ0 H _ _ v us Q I rx rv ⟨z, a1, xs, rfl, rfl, sq, hs, h.ok R _ (.ofStr (by rw [← sline_eq]; exact of_decide_eq_true c.2))⟩
    · exact h.elim
  · exact h.elim
theorem RVs.ofStrs {ρ : List Addr} {M : Mem} {H : Hp} : ∀ {xs : List Str}, (∀ x ∈ xs, x.length ≤ sizeLine) → RVs g ρ M H (xs.map PV.str) (xs.map V.str)
  | [], _ => .nil
  | x :: r, h => .cons (.ofStr (h x List.mem_cons_self)) (RVs.ofStrs fun y hy => h y (List.mem_cons_of_mem _ hy))
theorem m_split : MtR X "str.split" (rBm g .split m) := by
  intro pins s σ0 H x vs v us Q I rx rv ⟨W, ρ, M, ε, T, σ, p, ps, R, hp, hv, h⟩
  unfold bmeth at h
  split at h <;> try (rename_i hb; exact BM.noConfusion hb)
  · rename_i z y _
    obtain ⟨c, h⟩ := guard_ok h
    rw [Bool.and_eq_true, Bool.and_eq_true, Bool.and_eq_true] at c
    obtain ⟨⟨⟨c1, c2⟩, c3⟩, c4⟩ := c
    obtain ⟨rfl, hz⟩ := hp.str
    obtain ⟨w, rfl, hy⟩ := hv.one_inv
    obtain ⟨rfl, _⟩ := hy.str
    have h1 : z.length + 2 ≤ sizeLine := by rw [← sline_eq]; exact of_decide_eq_true c1
    have h2 : (y.length == 0) = false := by
      have : 0 < y.length := of_decide_eq_true c2
      exact (beq_eq_false_iff_ne (a := y.length)).mpr (by omega)
    have h3 : ((Txt.split z y).map PV.str).length ≤ sizeLine := by rw [List.length_map, ← sline_eq]; exact of_decide_eq_true c3
    have h4 : ∀ x ∈ Txt.split z y, x.length ≤ sizeLine := fun x hx => by rw [← sline_eq]; exact of_decide_eq_true (List.all_eq_true.mp c4 x hx)
    exact mt_split pins s σ0 H _ _ v us Q I rx rv ⟨z, y, rfl, rfl, h2, h1, fun q hq => mkL_ok R h3 (.ofStrs h4) hq h⟩
  · exact h.elim
end
end
end WT
set_option maxRecDepth 100000
set_option autoImplicit false
/-! Behind a call: the callee's own cells go. -/
namespace WT
open PySem PySem.Spec PyProof.Rows L2
section
variable {g : Gx} {ρ : List Addr} {M : Mem} {H : Hp}
/-! references are in range -/
mutual
theorem RV.inRange : ∀ {p : PV} {v : V}, RV g ρ M H p v → p.lt ρ.length = true
  | .non, _, _ => rfl
  | .bl _, _, _ => rfl
  | .int _, _, _ => rfl
  | .str _, _, _ => rfl
  | .cls _, _, _ => rfl
  | .fn _, _, _ => rfl
  | .ty _, _, _ => rfl
  | .lk _ _ _, _, _ => rfl
  | .tup xs, _, h => by unfold RV at h; obtain ⟨_, a, vs, _, _, r⟩ := h; exact RVs.inRange r
  | .lst xs, _, h => by unfold RV at h; obtain ⟨_, a, vs, _, _, r⟩ := h; exact RVs.inRange r
  | .dic kvs, _, h => by unfold RV at h; obtain ⟨_, a, vs, _, _, r⟩ := h; exact RVd.inRange r
  | .ins _ fs, _, h => by unfold RV at h; obtain ⟨a, dx, fs', _, _, r⟩ := h; exact RVf.inRange r
  | .exc _ fs, _, h => by
    unfold RV at h
    obtain ⟨a, _, _, h⟩ := h
    rcases h with ⟨rfl, _⟩ | ⟨dx, fs', _, _, _, r⟩
    · rfl
    · exact RVf.inRange r
  | .ref i, _, h => by
    unfold RV at h
    obtain ⟨a, _, h⟩ := h
    exact decide_eq_true (List.getElem?_eq_some_iff.mp h).1
theorem RVs.inRange : ∀ {p : List PV} {v : List V}, RVs g ρ M H p v → PV.lts ρ.length p = true
  | [], _, _ => rfl
  | x :: r, _, h => by
    unfold RVs at h
    obtain ⟨v, s, _, h1, h2⟩ := h
    show (PV.lt _ x && PV.lts _ r) = true
    rw [RV.inRange h1, RVs.inRange h2]; rfl
theorem RVd.inRange : ∀ {p : List (PV × PV)} {v : List (Key × V)}, RVd g ρ M H p v → PV.ltd ρ.length p = true
  | [], _, _ => rfl
  | (k, x) :: r, _, h => by
    unfold RVd at h
    obtain ⟨j, v, s, _, ek, h1, h2⟩ := h
    show (PV.lt _ k && (PV.lt _ x && PV.ltd _ r)) = true
    rw [RV.inRange h1, RVd.inRange h2, ek]
    cases j <;> rfl
theorem RVf.inRange : ∀ {p : List (Nat × PV)} {v : List (Str × V)}, RVf g ρ M H p v → PV.ltf ρ.length p = true
  | [], _, _ => rfl
  | (k, x) :: r, _, h => by
    unfold RVf at h
    obtain ⟨v, s, _, h1, h2⟩ := h
    show (PV.lt _ x && PV.ltf _ r) = true
    rw [RV.inRange h1, RVf.inRange h2]; rfl
end
theorem live_take {n : Nat} {a : Addr} (h : live (ρ.take n) (M.take n) a) : live ρ M a := by
  obtain ⟨i, c, h1, h2, h3⟩ := h
  rw [List.getElem?_take] at h1 h2
  split at h1
  · rename_i hi
    rw [if_pos hi] at h2
    exact ⟨i, c, h1, h2, h3⟩
  · cases h1
theorem Own.take {n : Nat} {a : Addr} {o : HO} (h : Own ρ M H a o) : Own (ρ.take n) (M.take n) H a o := ⟨h.1, fun l => h.2 (live_take l)⟩
theorem DO.take {n : Nat} {a : Addr} {kws : List (Key × V)} (h : DO ρ M H a kws) : DO (ρ.take n) (M.take n) H a kws := let ⟨o, k, e⟩ := h; ⟨o, k.take, e⟩
theorem LO.take {K : PySem.W.Frag} {n : Nat} {a : Addr} {vs : List V} (h : LO ρ M H K a vs) : LO (ρ.take n) (M.take n) H K a vs := h.imp (fun ⟨o, k, e⟩ => ⟨o, k.take, e⟩) id
mutual
theorem RV.take {n : Nat} : ∀ {p : PV} {v : V}, RV g ρ M H p v → p.lt n = true → RV g (ρ.take n) (M.take n) H p v
  | .non, _, h, _ => by unfold RV at h ⊢; exact h
  | .bl _, _, h, _ => by unfold RV at h ⊢; exact h
  | .int _, _, h, _ => by unfold RV at h ⊢; exact h
  | .str _, _, h, _ => by unfold RV at h ⊢; exact h
  | .cls _, _, h, _ => by unfold RV at h ⊢; exact h
  | .fn _, _, h, _ => by unfold RV at h ⊢; exact h
  | .ty _, _, h, _ => by unfold RV at h ⊢; exact h
  | .lk _ _ _, _, h, _ => by unfold RV at h ⊢; exact ⟨h.1, h.2.take⟩
  | .tup xs, _, h, l => by
    unfold RV at h ⊢
    obtain ⟨z, a, vs, e, t, r⟩ := h
    exact ⟨z, a, vs, e, t, RVs.take' r l⟩
  | .lst xs, _, h, l => by
    unfold RV at h ⊢
    obtain ⟨z, a, vs, e, t, r⟩ := h
    exact ⟨z, a, vs, e, t.take, RVs.take' r l⟩
  | .dic kvs, _, h, l => by
    unfold RV at h ⊢
    obtain ⟨z, a, vs, e, t, r⟩ := h
    exact ⟨z, a, vs, e, t.take, RVd.take' r l⟩
  | .ins c fs, _, h, l => by
    unfold RV at h ⊢
    obtain ⟨a, dx, vs, e, t, r⟩ := h
    exact ⟨a, dx, vs, e, t.take, RVf.take' r l⟩
  | .exc c fs, _, h, l => by
    unfold RV at h ⊢
    obtain ⟨a, e, na, h⟩ := h
    refine ⟨a, e, fun z => na (live_take z), ?_⟩
    rcases h with h | ⟨dx, fs', h1, h2, h3, r⟩
    · exact .inl h
    · exact .inr ⟨dx, fs', h1, h2, fun z => h3 (live_take z), RVf.take' r l⟩
  | .ref i, _, h, l => by
    unfold RV at h ⊢
    obtain ⟨a, e, r⟩ := h
    have hi : i < n := of_decide_eq_true l
    exact ⟨a, e, by rw [List.getElem?_take, if_pos hi]; exact r⟩
theorem RVs.take' {n : Nat} : ∀ {p : List PV} {v : List V}, RVs g ρ M H p v → PV.lts n p = true → RVs g (ρ.take n) (M.take n) H p v
  | [], _, h, _ => by unfold RVs at h ⊢; exact h
  | x :: r, _, h, l => by
    unfold RVs at h ⊢
    obtain ⟨v, s, e, h1, h2⟩ := h
    have l : (PV.lt n x && PV.lts n r) = true := l
    rw [Bool.and_eq_true] at l
    exact ⟨v, s, e, RV.take h1 l.1, RVs.take' h2 l.2⟩
theorem RVd.take' {n : Nat} : ∀ {p : List (PV × PV)} {v : List (Key × V)}, RVd g ρ M H p v → PV.ltd n p = true → RVd g (ρ.take n) (M.take n) H p v
  | [], _, h, _ => by unfold RVd at h ⊢; exact h
  | (k, x) :: r, _, h, l => by
    unfold RVd at h ⊢
    obtain ⟨j, v, s, e, ek, h1, h2⟩ := h
    have l : (PV.lt n k && (PV.lt n x && PV.ltd n r)) = true := l
    rw [Bool.and_eq_true, Bool.and_eq_true] at l
    exact ⟨j, v, s, e, ek, RV.take h1 l.2.1, RVd.take' h2 l.2.2⟩
theorem RVf.take' {n : Nat} : ∀ {p : List (Nat × PV)} {v : List (Str × V)}, RVf g ρ M H p v → PV.ltf n p = true → RVf g (ρ.take n) (M.take n) H p v
  | [], _, h, _ => by unfold RVf at h ⊢; exact h
  | (k, x) :: r, _, h, l => by
    unfold RVf at h ⊢
    obtain ⟨v, s, e, h1, h2⟩ := h
    have l : (PV.lt n x && PV.ltf n r) = true := l
    rw [Bool.and_eq_true] at l
    exact ⟨v, s, e, RV.take h1 l.1, RVf.take' h2 l.2⟩
end
theorem CellOk.take {n : Nat} {a : Addr} {c : Cell} (h : CellOk g ρ M H a c) (l : c.lt n = true) : CellOk g (ρ.take n) (M.take n) H a c := by
  cases c with
  | lst xs => obtain ⟨z, vs, h1, h2⟩ := h; exact ⟨z, vs, h1, RVs.take' h2 l⟩
  | dic kvs => obtain ⟨z, vs, h1, h2⟩ := h; exact ⟨z, vs, h1, RVd.take' h2 l⟩
  | ins c fs => obtain ⟨dx, fs', h1, h2⟩ := h; exact ⟨dx, fs', h1, RVf.take' h2 l⟩
  | dead => trivial
theorem CellOk.inRange {a : Addr} {c : Cell} (h : CellOk g ρ M H a c) : c.lt ρ.length = true := by
  cases c with
  | lst xs => obtain ⟨z, vs, h1, h2⟩ := h; exact h2.inRange
  | dic kvs => obtain ⟨z, vs, h1, h2⟩ := h; exact h2.inRange
  | ins c fs => obtain ⟨dx, fs', h1, h2⟩ := h; exact h2.inRange
  | dead => rfl
end
/-! equal cells -/
mutual
theorem PV.beq_lt {n : Nat} : ∀ {a b : PV}, PV.beq a b = true → a.lt n = true → b.lt n = true
  | .tup xs, b, e, h => by
    cases b with
    | tup ys => exact PV.beqs_lt (a := xs) (b := ys) e h
    | _ => cases e
  | .lst xs, b, e, h => by
    cases b with
    | lst ys => exact PV.beqs_lt (a := xs) (b := ys) e h
    | _ => cases e
  | .dic xs, b, e, h => by
    cases b with
    | dic ys => exact PV.beqd_lt (a := xs) (b := ys) e h
    | _ => cases e
  | .ins c xs, b, e, h => by
    cases b with
    | ins d ys =>
      have e : (c == d && PV.beqf xs ys) = true := e
      rw [Bool.and_eq_true] at e
      exact PV.beqf_lt (a := xs) (b := ys) e.2 h
    | _ => cases e
  | .exc c xs, b, e, h => by
    cases b with
    | exc d ys =>
      have e : (c == d && PV.beqf xs ys) = true := e
      rw [Bool.and_eq_true] at e
      exact PV.beqf_lt (a := xs) (b := ys) e.2 h
    | _ => cases e
  | .ref i, b, e, h => by
    cases b with
    | ref j =>
      have e : (i == j) = true := e
      have : i = j := eq_of_beq e
      subst this
      exact h
    | _ => cases e
  | .non, b, e, _ => by cases b <;> first | rfl | cases e
  | .bl _, b, e, _ => by cases b <;> first | rfl | cases e
  | .int _, b, e, _ => by cases b <;> first | rfl | cases e
  | .str _, b, e, _ => by cases b <;> first | rfl | cases e
  | .cls _, b, e, _ => by cases b <;> first | rfl | cases e
  | .fn _, b, e, _ => by cases b <;> first | rfl | cases e
  | .ty _, b, e, _ => by cases b <;> first | rfl | cases e
  | .lk _ _ _, b, e, _ => by
    cases b with
    | lk _ _ _ => rfl
    | _ => cases e
theorem PV.beqs_lt {n : Nat} : ∀ {a b : List PV}, PV.beqs a b = true → PV.lts n a = true → PV.lts n b = true
  | [], [], _, _ => rfl
  | x :: r, y :: s, e, h => by
    have e : (PV.beq x y && PV.beqs r s) = true := e
    have h : (PV.lt n x && PV.lts n r) = true := h
    rw [Bool.and_eq_true] at e h
    show (PV.lt n y && PV.lts n s) = true
    rw [PV.beq_lt e.1 h.1, PV.beqs_lt e.2 h.2]; rfl
theorem PV.beqd_lt {n : Nat} : ∀ {a b : List (PV × PV)}, PV.beqd a b = true → PV.ltd n a = true → PV.ltd n b = true
  | [], [], _, _ => rfl
  | (k, x) :: r, (j, y) :: s, e, h => by
    have e : (PV.beq k j && (PV.beq x y && PV.beqd r s)) = true := e
    have h : (PV.lt n k && (PV.lt n x && PV.ltd n r)) = true := h
    rw [Bool.and_eq_true, Bool.and_eq_true] at e h
    show (PV.lt n j && (PV.lt n y && PV.ltd n s)) = true
    rw [PV.beq_lt e.1 h.1, PV.beq_lt e.2.1 h.2.1, PV.beqd_lt e.2.2 h.2.2]; rfl
theorem PV.beqf_lt {n : Nat} : ∀ {a b : List (Nat × PV)}, PV.beqf a b = true → PV.ltf n a = true → PV.ltf n b = true
  | [], [], _, _ => rfl
  | (k, x) :: r, (j, y) :: s, e, h => by
    have e : (k == j && (PV.beq x y && PV.beqf r s)) = true := e
    have h : (PV.lt n x && PV.ltf n r) = true := h
    rw [Bool.and_eq_true, Bool.and_eq_true] at e
    rw [Bool.and_eq_true] at h
    show (PV.lt n y && PV.ltf n s) = true
    rw [PV.beq_lt e.2.1 h.1, PV.beqf_lt e.2.2 h.2]; rfl
end
theorem Cell.beq_lt {c d : Cell} {n : Nat} (e : Cell.beq c d = true) (h : c.lt n = true) : d.lt n = true := by
  cases c with
  | lst xs => cases d with
    | lst ys => exact PV.beqs_lt e h
    | _ => cases e
  | dic xs => cases d with
    | dic ys => exact PV.beqd_lt e h
    | _ => cases e
  | ins a xs => cases d with
    | ins b ys =>
      have e : (a == b && PV.beqf xs ys) = true := e
      rw [Bool.and_eq_true] at e
      exact PV.beqf_lt e.2 h
    | _ => cases e
  | dead => cases d with
    | dead => rfl
    | _ => cases e
/-- all that stood at the entry is in range still -/
theorem dropOk_lt {n : Nat} : ∀ {M M1 : Mem}, dropOk n M M1 = true → (∀ (i : Nat) (c : Cell), M[i]? = some c → c.lt n = true) → ∀ (i : Nat) (c : Cell), i < M.length → M1[i]? = some c → c.lt n = true
  | [], _, _, _, i, c, hi, _ => absurd hi (Nat.not_lt_zero _)
  | a :: r, [], h, _, i, c, _, e => by cases h
  | a :: r, b :: s, h, k, i, c, hi, e => by
    have h : ((Cell.beq a b || b.lt n) && dropOk n r s) = true := h
    rw [Bool.and_eq_true, Bool.or_eq_true] at h
    cases i with
    | zero =>
      have e : b = c := Option.some.inj e
      subst e
      exact h.1.elim (fun z => Cell.beq_lt z (k 0 a rfl)) id
    | succ i => exact dropOk_lt h.2 (fun j d q => k (j + 1) d q) i c (Nat.lt_of_succ_lt_succ hi) e
section
variable {g : Gx} {ρ ρ1 : List Addr} {M M1 : Mem} {H H1 : Hp} {T : List (PV × V)}
/-- Rl of the entry and of the end: the young cells go -/
theorem Rl.drop (R : Rl g ρ M H [] T []) (R1 : Rl g ρ1 M1 H1 [] T []) (h : dropOk M.length M M1 = true) : Rl g (ρ1.take M.length) (M1.take M.length) H1 [] T [] := by
  refine ⟨by rw [List.length_take, List.length_take, R1.len], rfl, fun i p e => by simp at e, fun q hq => (R1.tmp q hq).take (by rw [← R.len]; exact (R.tmp q hq).inRange), fun i a c e1 e2 => ?_, fun i j a c d e1 e2 e3 e4 hc hd => ?_⟩
  · rw [List.getElem?_take] at e1 e2
    split at e1
    · rename_i hi
      rw [if_pos hi] at e2
      refine (R1.cel i a c e1 e2).take (dropOk_lt h (fun j d q => ?_) i c hi e2)
      have hj : j < ρ.length := by rw [R.len]; exact (List.getElem?_eq_some_iff.mp q).1
      rw [← R.len]
      exact (R.cel j _ d (List.getElem?_eq_getElem hj) q).inRange
    · cases e1
  · rw [List.getElem?_take] at e1 e2 e3 e4
    split at e1
    · rename_i hi
      split at e2
      · rename_i hj
        rw [if_pos hi] at e3
        rw [if_pos hj] at e4
        exact R1.inj i j a c d e1 e2 e3 e4 hc hd
      · cases e2
    · cases e1
/-- behind a call: the value and the memory as fin tells them -/
theorem Rl.fin {p : PV} (R : Rl g ρ M H [] T []) (R1 : Rl g ρ1 M1 H1 [] T []) : ∃ ρ2, Rl g ρ2 (WT.fin M p M1).2 H1 [] T [] ∧ ∀ v, RV g ρ1 M1 H1 p v → RV g ρ2 (WT.fin M p M1).2 H1 p v := by
  unfold WT.fin
  cases h : (p.lt M.length && dropOk M.length M M1) with
  | false => exact ⟨ρ1, R1, fun v h => h⟩
  | true =>
    rw [Bool.and_eq_true] at h
    exact ⟨_, R.drop R1 h.2, fun v hv => hv.take h.1⟩
end
end WT
set_option maxRecDepth 100000
set_option autoImplicit false
/-! Calls of defs, methods, classes. -/
namespace WT
open PySem PySem.Spec PyProof.Rows L2

/-! ### the slots of a frame, as temporaries -/
def slots : Env → SS → List (PV × V)
  | some p :: e, some v :: s => (p, v) :: slots e s
  | _ :: e, _ :: s => slots e s
  | _, _ => []
theorem slots_mem : ∀ {ε : Env} {σ : SS} {i : Nat} {p : PV} {v : V}, ε[i]? = some (some p) → σ[i]? = some (some v) → (p, v) ∈ slots ε σ
  | [], _, _, _, _, h, _ => (by simp at h)
  | _ :: _, [], _, _, _, _, h => (by simp at h)
  | x :: e, y :: s, 0, p, v, h, k => by
    simp at h k
    subst h k
    exact List.mem_cons_self
  | x :: e, y :: s, i + 1, p, v, h, k => by
    have ih := slots_mem (ε := e) (σ := s) (i := i) (by simpa using h) (by simpa using k)
    cases x with
    | none => exact ih
    | some a => cases y with
      | none => exact ih
      | some b => exact List.mem_cons_of_mem _ ih
theorem slots_of : ∀ {ε : Env} {σ : SS} {q : PV × V}, q ∈ slots ε σ → ∃ i : Nat, ε[i]? = some (some q.1) ∧ σ[i]? = some (some q.2)
  | [], _, _, h => by simp [slots] at h
  | x :: e, [], _, h => by cases x <;> simp [slots] at h
  | x :: e, y :: s, q, h => by
    have up : q ∈ slots e s → ∃ i : Nat, (x :: e)[i]? = some (some q.1) ∧ (y :: s)[i]? = some (some q.2) := fun h => by
      obtain ⟨i, h1, h2⟩ := slots_of h
      exact ⟨i + 1, by simpa using h1, by simpa using h2⟩
    cases x with
    | none => exact up h
    | some a => cases y with
      | none => exact up h
      | some b =>
        obtain rfl | h := List.mem_cons.mp h
        · exact ⟨0, rfl, rfl⟩
        · exact up h
/-- an outcome of a call, as the callee's promise tells it -/
def resC (g : Gx) (r : Res PV) (T : List (PV × V)) (Q : VK) (E : XK) : Prop := match r with
  | .ok p M => ∀ ρ H, Rl g ρ M H [] T [] → ∀ v, RV g ρ M H p v → Q v H
  | .err e M => ∀ ρ H cls d, Rl g ρ M H [] T [] → RX g ρ M H e cls d → E cls d H
  | .stuck => False
section
variable {g : Gx} {W : WX} {ρ ρ' : List Addr} {M M' : Mem} {H H' : Hp} {ε : Env} {T : List (PV × V)} {σ : SS}
theorem Rl.pack (R : Rl g ρ M H ε T σ) : Rl g ρ M H [] (slots ε σ ++ T) [] :=
  ⟨R.len, rfl, fun i p e => by simp at e, fun q hq => by
    obtain hq | hq := List.mem_append.mp hq
    · obtain ⟨i, h1, h2⟩ := slots_of hq
      obtain ⟨v, h3, h4⟩ := R.env i q.1 h1
      rw [h2] at h3
      cases h3
      exact h4
    · exact R.tmp q hq, R.cel, R.inj⟩
theorem Rl.unpack (R : Rl g ρ M H ε T σ) (R' : Rl g ρ' M' H' [] (slots ε σ ++ T) []) : Rl g ρ' M' H' ε T σ :=
  ⟨R'.len, R.elen, fun i p e => by
    obtain ⟨v, h1, _⟩ := R.env i p e
    exact ⟨v, h1, R'.tmp (p, v) (List.mem_append_left _ (slots_mem e h1))⟩, fun q hq => R'.tmp q (List.mem_append_right _ hq), R'.cel, R'.inj⟩
theorem resW.toC {r : Res PV} {Q : VK} (R : Rl g ρ M H ε T σ) (h : resW g W r ε T σ (EndQ g Q)) : resC g r (slots ε σ ++ T) Q (WE W σ) := by
  cases r with
  | ok p M1 => exact fun ρ1 H1 R1 v rv => h ρ1 H1 (R.unpack R1) v rv
  | err e M1 => exact fun ρ1 H1 cls d R1 rx => h ρ1 H1 cls d (R.unpack R1) rx
  | stuck => exact h
end
/-- the promise of the def f at a level -/
def spOf (g : Gx) (call : Nat → List PV → Mem → Res PV) (f : Nat) : Sp := fun vs H Q E => ∃ ρ M T as, Rl g ρ M H [] T [] ∧ RVs g ρ M H as vs ∧ resC g (call f as M) T Q E

/-! ### a def, with no guard on the stack -/
structure FnG (P : Program) (w : World) (K : PySem.W.Frag) (mg : Str → Option Value) (base : Heap) (CX : CXT) (k : Nat) (f : Addr) (fd : FuncData) (ps : List Str) (sp : Sp) : Prop where
  len : ∀ vs H Q E, sp vs H Q E → vs.length = ps.length
  run : ∀ (A : Around) (outer : List PySem.Env) (s : Shared) (H : Hp) (args : Args) (us : List Value) (vs : List V) (Q : VK) (E : XK), Room k A → A.guards = some [] → Env0 P w K mg base A outer s H → BindsTo s fd args (ps.zip us) → Vals vs us → sp vs H Q E →
    codeAny (model P w) A (.call (.ref f) args) (CR CX outer P w H s Q E) s
section
variable {X : Cx} {CT : CXT} {k : Nat} {f c : Addr} {fd : FuncData} {ps : List Str} {sp : Sp} {E : XK} {pins : List (Addr × Obj)} {σ : SS} {H : Hp} {s : Shared} {Q : VK} {us : List Value} {vs : List V} {pos : List Value} {kw : List (Str × Value)}
/-- what a call's outcome says here -/
theorem end_call {E' : Value → Shared → Prop} {K : Value → Shared → Prop} (I : Inv X pins σ H s) (hx : ∀ e s', CT X.stack H s E e s' → E' e s') (hk : ∀ u s', EP X pins σ Q u s' → K u s') {r : Result} {s' : Shared} (q : CR CT X.stack X.prog X.w H s Q E r s') :
    (match r with
      | .ok (.ret u) => K u s'
      | .ok _ => False
      | .error e => E' e s') := by
  cases r with
  | error e => exact hx e s' q
  | ok fl => cases fl with
    | ret u => exact hk u s' (I.after q)
    | _ => exact False.elim q
theorem fn_run (F : FnG X.prog X.w X.K X.mg X.base CT k f fd ps sp) (hr : Room k X.A) (hg : X.A.guards = some []) (hb : BindsTo s fd ⟨pos, kw⟩ (ps.zip us)) (hx : PassesAt CT X σ E) (I : Inv X pins σ H s) (r : Vals vs us) (h : sp vs H Q E) :
    wpAny (model X.prog X.w) X.A (PySem.call (.ref f) pos kw) (EP X pins σ Q) X.xe s := by
  refine wpAny_call (codeAny_mono (F.run X.A X.stack s H ⟨pos, kw⟩ us vs Q E hr hg I.env0 hb r h) fun r s' hq => ?_)
  have z := end_call (E' := X.xe) (K := EP X pins σ Q) I (fun e s' c => hx pins H s e s' I c) (fun u s' q => q) hq
  cases r with
  | error e => exact z
  | ok fl => cases fl with
    | ret u => exact z
    | _ => exact False.elim z
theorem under_guards {A : Around} {vs : List Value} (hg : A.guards = some []) : (A.under (.builtin "type.__call__" ⟨vs, kw⟩)).guards = some [] := by
  simp [Around.under, Code.guards, Code.isGuard, guardIds, pushGuards, hg]
/-- a class is called: a new instance and its dict, then __init__ -/
theorem mk_run (m : Mk X.K c f) (F : FnG X.prog X.w X.K X.mg X.base CT k f fd ps sp) (hr : Room (k + 1) X.A) (hg : X.A.guards = some []) (hb : ∀ s, X.K.In s.heap → ∀ x, BindsTo s fd ⟨x :: pos, kw⟩ (ps.zip (x :: us))) (hx : PassesAt CT X σ E) (I : Inv X pins σ H s) (r : Vals vs us)
    (h : ∀ x dx, H x = none → H dx = none → dx ≠ x → sp (.ref x :: vs) (upd (upd H dx (.own x)) x (.ins c dx [])) (fun v H2 => v = .non ∧ Q (.ref x) H2) E) :
    wpAny (model X.prog X.w) X.A (PySem.call (.ref c) pos kw) (EP X pins σ Q) X.xe s := by
  have hq := h (s.heap.objs.size + 1) s.heap.objs.size (I.hok.fresh (Nat.le_succ _)) (I.hok.fresh (Nat.le_refl _)) (Nat.ne_of_lt (Nat.lt_succ_self _))
  have I2 := Inv.made (C := c) I
  refine wpAny_call (make_map (f := f) I.kIn m.makes m.init (beq_iff_eq.mp m.fn) (codeAny_mono (F.run _ X.stack _ _ ⟨Value.ref (s.heap.objs.size + 1) :: pos, kw⟩ (Value.ref (s.heap.objs.size + 1) :: us) _ _ E (hr.make c pos kw)
    (under_guards hg) (I2.env0.make c pos kw) (hb _ I2.kIn _) (Paired.cons (show RelV (V.ref (s.heap.objs.size + 1)) (Value.ref (s.heap.objs.size + 1)) from rfl) r) hq) fun r s' hq' => ?_))
  have z := end_call (E' := X.xe) (Q := fun v H2 => v = .non ∧ Q (.ref (s.heap.objs.size + 1)) H2) (K := fun u s' => u = .none ∧ EP X pins σ Q (.ref (s.heap.objs.size + 1)) s') I2 (fun e s' c => hx pins _ _ e s' I2 c) (fun u s' ⟨v, H', I3, rv, ev, q3⟩ => by
    subst ev
    exact ⟨rv, ⟨V.ref (s.heap.objs.size + 1), H', I3, rfl, q3⟩⟩) hq'
  cases r with
  | error e => exact z
  | ok fl => cases fl with
    | ret u => exact z
    | _ => exact False.elim z
/-- the same def, read as a property -/
theorem prop_run {cl a dx p gt : Addr} {fs : List (Str × V)} {nm : Str} {b : Bool} {E' : Value → Shared → Prop} (ea : H a = some (.ins cl dx fs)) (hc : Cls X.K cl) (hp : PropOf X.K cl nm p gt) (F : FnG X.prog X.w X.K X.mg X.base CT k gt fd ps sp) (hr : Room (k + 1) X.A) (hg : X.A.guards = some [])
    (hb : ∀ s, X.K.In s.heap → ∀ x, BindsTo s fd ⟨[x], []⟩ (ps.zip [x])) (hx : ∀ e s', ¬ CT X.stack H { s with toks := s.toks + 1 } E e s') (I : Inv X pins σ H s) (h : sp [.ref a] H Q E) :
    wpAny (model X.prog X.w) X.A (getAttr (.ref a) nm b) (EP X pins σ Q) E' s := by
  obtain ⟨mA, O, _, _, _, _⟩ := ins_get I.hok ea
  obtain ⟨od, J, _⟩ := O.look
  obtain ⟨rest, hrec⟩ := hp.rec_
  have I1 := I.tok (s.toks + 1)
  have hcl : (PySem.W.clsIn X.K cl).isSome = true := by
    obtain ⟨cd, h1, _⟩ := PySem.W.any_some hc.hd
    rw [h1]; rfl
  refine PySem.W.get_bind I.kIn J (PySem.W.plainGet_of (hc.get nm)).1 (PySem.W.findObj_data hcl hp.at_ hp.get hp.tak) (PySem.W.plainGet_of (hc.get nm)).2 (wpAny_call (PySem.W.prop_get (s := { s with toks := s.toks + 1 }) I.kIn hrec ?_))
  refine codeAny_mono (F.run X.A.in1 X.stack { s with toks := s.toks + 1 } H ⟨[.ref a], []⟩ [.ref a] [.ref a] Q E hr.in1 hg I1.env0.in1 (hb _ I1.kIn _) (Paired.cons (show RelV (V.ref a) (Value.ref a) from rfl) .nil) h) fun r s' hq => ?_
  cases r with
  | error e => exact absurd hq (hx e s')
  | ok fl => cases fl with
    | ret u =>
      obtain ⟨v, H', I3, rv, q3⟩ := I1.after hq
      show wpAny _ _ (handedOut u) _ _ _
      rw [PySem.W.handedOut_of (handed_of rv)]
      exact wpAny_pure ⟨v, H', I3, rv, q3⟩
    | _ => exact False.elim hq
end

/-! ### arguments, defaults among them -/
/-- the parameters' values: what is given, in order, and the defaults -/
def fill {α : Type} : List (Option α) → List α → List α
  | some d :: r, xs => d :: fill r xs
  | none :: r, x :: xs => x :: fill r xs
  | _, _ => []
theorem fill_nones {α : Type} : ∀ xs : List α, fill (List.replicate xs.length none) xs = xs
  | [] => rfl
  | x :: r => by show x :: fill (List.replicate r.length none) r = _; rw [fill_nones r]
def holes {α : Type} : List (Option α) → Nat
  | [] => 0
  | some _ :: r => holes r
  | none :: r => holes r + 1
/-- a default: the tree, the value, the object -/
structure Dfl where
  p : PV
  v : V
  u : Value
section
variable {g : Gx} {C : Ctx}
theorem fill_RVs {ρ : List Addr} {M : Mem} {H : Hp} : ∀ {pat : List (Option Dfl)} {ps : List PV} {vs : List V}, (∀ d, some d ∈ pat → RV g ρ M H d.p d.v) → ps.length = holes pat → RVs g ρ M H ps vs → RVs g ρ M H (fill (pat.map (·.map (·.p))) ps) (fill (pat.map (·.map (·.v))) vs)
  | [], ps, vs, _, _, _ => .nil
  | some d :: r, ps, vs, h, hl, k => .cons (h d List.mem_cons_self) (fill_RVs (fun e he => h e (List.mem_cons_of_mem _ he)) hl k)
  | none :: r, [], _, _, hl, _ => by simp [holes] at hl
  | none :: r, p :: ps, _, h, hl, k => by
    unfold RVs at k
    obtain ⟨v, s, rfl, h1, h2⟩ := k
    exact .cons h1 (fill_RVs (fun e he => h e (List.mem_cons_of_mem _ he)) (by simpa [holes] using hl) h2)
theorem fill_Vals : ∀ {pat : List (Option Dfl)} {vs : List V} {us : List Value}, (∀ d, some d ∈ pat → RelV d.v d.u) → Vals vs us → Vals (fill (pat.map (·.map (·.v))) vs) (fill (pat.map (·.map (·.u))) us)
  | [], _, _, _, _ => .nil
  | some d :: r, vs, us, h, k => Paired.cons (h d List.mem_cons_self) (fill_Vals (fun e he => h e (List.mem_cons_of_mem _ he)) k)
  | none :: r, _, _, h, .nil => .nil
  | none :: r, _, _, h, .cons q k => Paired.cons q (fill_Vals (fun e he => h e (List.mem_cons_of_mem _ he)) k)
theorem bind_bind {α β δ : Type} (r : Res α) (f : α → Mem → Res β) (k : β → Mem → Res δ) : (r.bind f).bind k = r.bind fun a M => (f a M).bind k := by cases r <;> rfl
theorem evs_fill {ε : WT.Env} : ∀ {pat : List (Option Dfl)} {cs : List CE} {M : Mem}, cs.length = holes pat → evs C (fill (pat.map (·.map fun d => CE.lit d.p)) cs) ε M = (evs C cs ε M).bind fun vs M => .ok (fill (pat.map (·.map (·.p))) vs) M
  | [], cs, M, hl => by
    have : cs = [] := List.length_eq_zero_iff.mp (by simpa [holes] using hl)
    subst this
    rfl
  | some d :: r, cs, M, hl => by
    show (Res.bind (.ok d.p M) fun v M => (evs C (fill (r.map (·.map fun d => CE.lit d.p)) cs) ε M).bind fun vs M => .ok (v :: vs) M) = _
    show ((evs C (fill (r.map (·.map fun d => CE.lit d.p)) cs) ε M).bind fun vs M => .ok (d.p :: vs) M) = _
    rw [evs_fill (by simpa [holes] using hl), bind_bind]
    rfl
  | none :: r, [], M, hl => by simp [holes] at hl
  | none :: r, c :: cs, M, hl => by
    show ((ev C c ε M).bind fun v M => (evs C (fill (r.map (·.map fun d => CE.lit d.p)) cs) ε M).bind fun vs M => .ok (v :: vs) M) = ((ev C c ε M).bind fun v M => (evs C cs ε M).bind fun vs M => .ok (v :: vs) M).bind _
    rw [bind_bind]
    cases ev C c ε M with
    | ok v M1 =>
      show ((evs C (fill (r.map (·.map fun d => CE.lit d.p)) cs) ε M1).bind fun vs M => .ok (v :: vs) M) = ((evs C cs ε M1).bind fun vs M => .ok (v :: vs) M).bind _
      rw [evs_fill (by simpa [holes] using hl), bind_bind, bind_bind]
      rfl
    | err e M1 => rfl
    | stuck => rfl
theorem evs_append {ε : WT.Env} {cs ds : List CE} : ∀ {M : Mem}, evs C (cs ++ ds) ε M = (evs C cs ε M).bind fun xs M => (evs C ds ε M).bind fun ys M => .ok (xs ++ ys) M := by
  induction cs with
  | nil =>
    intro M
    show evs C ds ε M = (evs C ds ε M).bind fun ys M => .ok ys M
    cases evs C ds ε M <;> rfl
  | cons c cs ih =>
    intro M
    show ((ev C c ε M).bind fun v M => (evs C (cs ++ ds) ε M).bind fun vs M => .ok (v :: vs) M) = ((ev C c ε M).bind fun v M => (evs C cs ε M).bind fun vs M => .ok (v :: vs) M).bind _
    rw [bind_bind]
    cases ev C c ε M with
    | ok v M1 =>
      show ((evs C (cs ++ ds) ε M1).bind fun vs M => .ok (v :: vs) M) = ((evs C cs ε M1).bind fun vs M => .ok (v :: vs) M).bind _
      rw [ih, bind_bind, bind_bind]
      cases evs C cs ε M1 with
      | ok xs M2 =>
        show ((evs C ds ε M2).bind fun ys M => .ok (xs ++ ys) M).bind _ = (evs C ds ε M2).bind fun ys M => .ok ((v :: xs) ++ ys) M
        rw [bind_bind]
        rfl
      | err e M2 => rfl
      | stuck => rfl
    | err e M1 => rfl
    | stuck => rfl
end
end WT
set_option maxRecDepth 100000
set_option autoImplicit false
/-! Calls, 2: the rules. -/
namespace WT
open PySem PySem.Spec PyProof.Rows L2

section
variable {g : Gx} {W : WX} {C : Ctx} {X : Cx} {e o : Expr} {es : List Expr} {kws : List Keyword} {cs ds : List CE} {x m : Str} {p pos apos kpos : Pos} {ks : List Str} {nm : Option Str}
/-- an argument list, called on -/
def CallArgs (g : Gx) (W : WX) (C : Ctx) (X : Cx) (es : List Expr) (kws : List Keyword) (pos : Pos) (ks : List Str) (cs : List CE) : Prop :=
  ∀ (fv : Value) (first : List Value) (pins : List (Addr × Obj)) (s : Shared) (ρ : List Addr) (M : Mem) (H : Hp) (ε : WT.Env) (T : List (PV × V)) (σ : SS) (Q : Value → Shared → Prop) (k : List PV → Mem → Res PV) (A : PV → List Addr → Mem → Hp → Prop),
    PySem.W.keepIn X.K fv = true → Inv X pins σ H s → Rl g ρ M H ε T σ → resW g W ((evs C cs ε M).bind k) ε T σ A →
    (∀ us ws ps vs s1 ρ1 M1 H1 T1, (∀ q ∈ T, q ∈ T1) → Inv X pins σ H1 s1 → Rl g ρ1 M1 H1 ε T1 σ → RVs g ρ1 M1 H1 ps vs → Vals vs (us ++ ws) → ps.length = cs.length → ws.length = ks.length → resW g W (k ps M1) ε T1 σ A →
      wpAny (model X.prog X.w) X.A (PySem.call fv (first ++ us) (ks.zip ws)) Q X.xe s1) →
    wpAny (model X.prog X.w) X.A (callWith pos fv first (backTo pos (starEach es X.env)) (backToKw pos (keywordEach kws X.env))) Q X.xe s
theorem tRs.ofL {ε : WT.Env} {T : List (PV × V)} {σ : SS} {β : Type} {k : List PV → Mem → Res β} {ρ : List Addr} {M : Mem} {H : Hp} {Q : List V → Hp → Prop} {A : β → List Addr → Mem → Hp → Prop} (R : Rl g ρ M H ε T σ) (h : resW g W ((evs C cs ε M).bind k) ε T σ A)
    (hk : ∀ ps ρ M H vs, Rl g ρ M H ε T σ → RVs g ρ M H ps vs → ps.length = cs.length → resW g W (k ps M) ε T σ A → Q vs H) : tRs g W (evs C cs) σ H Q :=
  ⟨ρ, M, ε, T, R, (h.bind.also (B := fun ps _ => ps.length = cs.length) fun ps M e => evs_len e).imp fun p ρ M H R' ⟨hl, h'⟩ vs rv => hk p ρ M H vs R' rv hl h'⟩
theorem ca_none : CallArgs g W C X [] [] pos [] [] := fun fv first pins s ρ M H ε T σ Q k A hf I R h hk =>
  PySem.W.callWith_K0 I.kIn hf (hk [] [] [] [] s ρ M H T (fun _ z => z) I R .nil .nil rfl rfl h)
theorem ca_pos (ha : SA g W C X (e :: es) cs) (he : starEach (e :: es) X.env = (false, eval e X.env) :: starEach es X.env) (hpl : (backTo pos (starEach es X.env)).any (·.1) = false) : CallArgs g W C X (e :: es) [] pos [] cs := fun fv first pins s ρ M H ε T σ Q k A hf I R h hk =>
  PySem.W.callWith_K (h₀ := X.base) I.ok.mod.kin hf (thn (ha.run pos pins s σ H (fun vs H1 => ∃ ρ1 M1 ps, Rl g ρ1 M1 H1 ε T σ ∧ RVs g ρ1 M1 H1 ps vs ∧ ps.length = cs.length ∧ resW g W (k ps M1) ε T σ A) I (tRs.ofL R h fun ps ρ1 M1 H1 vs R1 rv hl h1 => ⟨ρ1, M1, ps, R1, rv, hl, h1⟩))
    fun us s1 ⟨vs, H1, I1, r, ρ1, M1, ps, R1, rv, hl, h1⟩ => ⟨I1.kIn, hk us [] ps vs s1 ρ1 M1 H1 T (fun _ z => z) I1 R1 rv (by rw [List.append_nil]; exact r) hl rfl h1⟩) he hpl
/-! keywords -/
abbrev SK (g : Gx) (W : WX) (C : Ctx) (X : Cx) (kws : List Keyword) (cs : List CE) : Prop := PK X kws (tRs g W (evs C cs))
theorem sk_nil : SK g W C X [] [] := ⟨fun pos pins s σ H Q I ⟨ρ, M, ε, T, R, h⟩ => pk_nil.run pos pins s σ H Q I (h.ok R [] .nil)⟩
theorem sk_cons {ca : CE} {cs : List CE} (ha : SE g W C X e ca) (hr : SK g W C X kws cs) : SK g W C X (⟨nm, e, kpos⟩ :: kws) (ca :: cs) :=
  ⟨fun pos pins s σ H Q I ⟨ρ, M, ε, T, R, h⟩ => (pk_cons (nm := nm) (kpos := kpos) ha hr).run pos pins s σ H Q I (tR.of R h fun p ρ1 M1 H1 v R1 h1 =>
    tRs.of R1 (h1.more fun q hq => List.mem_cons_of_mem _ hq) fun ps ρ2 M2 H2 vs R2 hv h2 => h2.ok R2 (v :: vs) (.cons R2.head hv))⟩
theorem RVs.zipMem {ρ : List Addr} {M : Mem} {H : Hp} : ∀ {ps : List PV} {vs : List V}, RVs g ρ M H ps vs → ∀ q ∈ ps.zip vs, RV g ρ M H q.1 q.2
  | [], _, _, q, hq => by simp at hq
  | p :: ps, _, h, q, hq => by
    unfold RVs at h
    obtain ⟨v, s, rfl, h1, h2⟩ := h
    obtain rfl | hq := List.mem_cons.mp hq
    · exact h1
    · exact RVs.zipMem h2 q hq
theorem RVs.ofZip {ρ : List Addr} {M : Mem} {H : Hp} : ∀ {ps : List PV} {vs : List V}, ps.length = vs.length → (∀ q ∈ ps.zip vs, RV g ρ M H q.1 q.2) → RVs g ρ M H ps vs
  | [], [], _, _ => .nil
  | p :: ps, v :: vs, hl, h => .cons (h (p, v) List.mem_cons_self) (RVs.ofZip (by simpa using hl) fun q hq => h q (List.mem_cons_of_mem _ hq))
theorem rz_len {ρ : List Addr} {M : Mem} {H : Hp} {ps : List PV} {vs : List V} (h : RVs g ρ M H ps vs) : ps.length = vs.length := h.length
theorem ca_kw (ha : SA g W C X (e :: es) cs) (hkw : SK g W C X kws ds) (hall : (backToKw pos (keywordEach kws X.env)).all (·.1.isSome) = true) (hks : (backToKw pos (keywordEach kws X.env)).filterMap (·.1) = ks) (hds : ds.length = ks.length) (he : starEach (e :: es) X.env = (false, eval e X.env) :: starEach es X.env)
    (hpl : ((backTo pos (starEach (e :: es) X.env)).any (·.1) || (backToKw pos (keywordEach kws X.env)).any (·.1.isNone)) = false) : CallArgs g W C X (e :: es) kws pos ks (cs ++ ds) := fun fv first pins s ρ M H ε T σ Q k A hf I R h hk => by
  rw [evs_append, bind_bind] at h
  refine PySem.W.callWith_KW (h₀ := X.base) I.ok.mod.kin hf hall (thn (ha.run pos pins s σ H (fun vs H1 => ∃ ρ1 M1 ps, Rl g ρ1 M1 H1 ε T σ ∧ RVs g ρ1 M1 H1 ps vs ∧ ps.length = cs.length ∧ resW g W (((evs C ds ε M1).bind fun ys M => .ok (ps ++ ys) M).bind k) ε T σ A) I
    (tRs.ofL R h fun ps ρ1 M1 H1 vs R1 rv hl h1 => ⟨ρ1, M1, ps, R1, rv, hl, h1⟩)) fun us s1 ⟨vs, H1, I1, r, ρ1, M1, ps, R1, rv, hl, h1⟩ => ?_) hpl he
  rw [bind_bind] at h1
  have R1' := R1.pushs rv.zipMem
  have lz := rz_len rv
  refine thn (hkw.run pos pins s1 σ H1 (fun zs H2 => ∃ ρ2 M2 qs, Rl g ρ2 M2 H2 ε (ps.zip vs ++ T) σ ∧ RVs g ρ2 M2 H2 qs zs ∧ qs.length = ds.length ∧ resW g W (k (ps ++ qs) M2) ε (ps.zip vs ++ T) σ A) I1
    (tRs.ofL (k := fun a M => (Res.ok (ps ++ a) M).bind k) R1' (h1.more fun q hq => List.mem_append_right _ hq) fun qs ρ2 M2 H2 zs R2 rz hl2 h2 => ⟨ρ2, M2, qs, R2, rz, hl2, h2⟩)) fun ws s2 ⟨zs, H2, I2, rz, ρ2, M2, qs, R2, rq, hl2, h2⟩ => ⟨I2.kIn, ?_⟩
  rw [hks]
  have l1 := rz.length
  have l2 := rq.length
  exact hk us ws (ps ++ qs) (vs ++ zs) s2 ρ2 M2 H2 _ (fun q hq => List.mem_append_right _ hq) I2 R2 ((RVs.ofZip lz fun q hq => R2.tmp q (List.mem_append_left _ hq)).append rq) (r.append rz) (by rw [List.length_append, List.length_append, hl, hl2]) (by omega) h2
/-- keywords alone -/
theorem ca_kw0 (hkw : SK g W C X kws ds) (hall : (backToKw pos (keywordEach kws X.env)).all (·.1.isSome) = true) (hks : (backToKw pos (keywordEach kws X.env)).filterMap (·.1) = ks) (hds : ds.length = ks.length)
    (hpl : ((backTo pos (starEach [] X.env)).any (·.1) || (backToKw pos (keywordEach kws X.env)).any (·.1.isNone)) = false) : CallArgs g W C X [] kws pos ks ds := fun fv first pins s ρ M H ε T σ Q k A hf I R h hk => by
  refine PySem.W.callWith_KW0 (h₀ := X.base) I.ok.mod.kin hf hall (thn (hkw.run pos pins s σ H (fun zs H2 => ∃ ρ2 M2 qs, Rl g ρ2 M2 H2 ε T σ ∧ RVs g ρ2 M2 H2 qs zs ∧ qs.length = ds.length ∧ resW g W (k qs M2) ε T σ A) I
    (tRs.ofL R h fun qs ρ2 M2 H2 zs R2 rz hl2 h2 => ⟨ρ2, M2, qs, R2, rz, hl2, h2⟩)) fun ws s2 ⟨zs, H2, I2, rz, ρ2, M2, qs, R2, rq, hl2, h2⟩ => ⟨I2.kIn, ?_⟩) hpl
  rw [hks]
  have l1 := rz.length
  have l2 := rq.length
  exact hk [] ws qs zs s2 ρ2 M2 H2 T (fun _ z => z) I2 R2 rq rz hl2 (by omega) h2

/-! ### the calls -/
/-- how a def binds: what is given fills the holes of pat -/
def GB (K : PySem.W.Frag) (fd : FuncData) (ps : List Str) (pat : List (Option Dfl)) (ks : List Str) : Prop :=
  ∀ (s : Shared) (us ws : List Value), K.In s.heap → us.length + ws.length = holes pat → ws.length = ks.length → BindsTo s fd ⟨us, ks.zip ws⟩ (ps.zip (fill (pat.map (·.map (·.u))) (us ++ ws)))
def DflOk (g : Gx) (pat : List (Option Dfl)) : Prop := ∀ d, some d ∈ pat → (∀ ρ M H, RV g ρ M H d.p d.v) ∧ RelV d.v d.u
/-- the arguments, defaults among them, as the core has them -/
def argsOf (pat : List (Option Dfl)) (cs : List CE) : List CE := fill (pat.map (·.map fun d => CE.lit d.p)) cs
section
variable {k : Nat} {f : Nat} {fd : FuncData} {ps : List Str} {pat : List (Option Dfl)}
theorem se_call (F : FnG X.prog X.w X.K X.mg X.base (L2.CX X.prog X.w) k (g.fa f) fd ps (spOf g C.call f)) (hr : Room k X.A) (hgd : X.A.guards = some []) (hg : Gl X x) (hm : X.mg x = some (.ref (g.fa f))) (hkp : PySem.W.keepIn X.K (.ref (g.fa f)) = true) (hb : GB X.K fd ps pat ks)
    (hl : cs.length = holes pat) (hd : DflOk g pat) (tk : Takes X W) (hdb : (x == ("__debug__" : Str)) = false) (ha : CallArgs g W C X es kws pos ks cs) : SE g W C X (.Call (.Name x p) es kws pos) (.call f (argsOf pat cs)) :=
  ⟨fun pins s σ H Q I ⟨ρ, M, ε, T, R, h⟩ => by
    have h : resW g W ((evs C (argsOf pat cs) ε M).bind fun vs M => C.call f vs M) ε T σ (EndQ g Q) := h
    unfold argsOf at h
    rw [evs_fill hl, bind_bind] at h
    refine wpAny_Call_Name_kw ?_
    refine ld_glob I hg hm ?_ hdb
    refine ha _ [] pins s ρ M H ε T σ _ _ _ hkp I R h fun us ws ps' vs s1 ρ1 M1 H1 T1 hT I1 R1 rv r hl1 hl2 h1 => ?_
    have hlen : us.length + ws.length = holes pat := by
      have a1 := r.length
      have a2 := rv.length
      rw [List.length_append] at a1
      omega
    exact fn_run F hr hgd (hb s1 us ws I1.kIn hlen hl2) (passAt tk σ) I1 (fill_Vals (fun d hd' => (hd d hd').2) r) ⟨ρ1, M1, slots ε σ ++ T1, _, R1.pack, fill_RVs (fun d hd' => (hd d hd').1 _ _ _) (by omega) rv, resW.toC R1 h1⟩⟩
/-! ### instances -/
/-- no other name is written like the name k -/
def InjAt (g : Gx) (k : Nat) : Prop := ∀ j, g.nm j = g.nm k → j = k
theorem RVf.get {ρ : List Addr} {M : Mem} {H : Hp} {k : Nat} (hi : InjAt g k) : ∀ {fs : List (Nat × PV)} {fs' : List (Str × V)}, RVf g ρ M H fs fs' →
    (fs.lookup k = none → fs'.lookup (g.nm k) = none) ∧ ∀ p, fs.lookup k = some p → ∃ v, fs'.lookup (g.nm k) = some v ∧ RV g ρ M H p v
  | [], _, h => by
    unfold RVf at h
    subst h
    exact ⟨fun _ => rfl, fun p e => by cases e⟩
  | (j, x) :: r, _, h => by
    unfold RVf at h
    obtain ⟨v, s, rfl, h1, h2⟩ := h
    have ih := RVf.get hi h2
    by_cases e : k = j
    · subst e
      rw [List.lookup_cons, List.lookup_cons]
      simp only [if_true, beq_self_eq_true]
      exact ⟨fun z => (by cases z), fun p z => ⟨v, rfl, by cases z; exact h1⟩⟩
    · have e1 : (k == j) = false := beq_eq_false_iff_ne.mpr e
      have e2 : (g.nm k == g.nm j) = false := beq_eq_false_iff_ne.mpr fun z => e (hi j z.symm).symm
      rw [List.lookup_cons, List.lookup_cons, e1, e2]
      exact ih
theorem Rl.insAt {ρ : List Addr} {M : Mem} {H : Hp} {ε : WT.Env} {T : List (PV × V)} {σ : SS} {q : PV} {v : V} {c : Nat} {fs : List (Nat × PV)} (R : Rl g ρ M H ε T σ) (h : RV g ρ M H q v) (e : rd M q = .ins c fs) :
    ∃ a dx fs', v = .ref a ∧ H a = some (.ins (g.ca c) dx fs') ∧ RVf g ρ M H fs fs' := by
  cases q with
  | ins d ys =>
    have : PV.ins d ys = .ins c fs := e
    cases this
    unfold RV at h
    obtain ⟨a, dx, fs', rfl, ⟨t, _⟩, r⟩ := h
    exact ⟨a, dx, fs', rfl, t, r⟩
  | ref i =>
    unfold RV at h
    obtain ⟨a, rfl, hi⟩ := h
    have e' : (match M[i]? with
      | some (.lst xs) => PV.lst xs
      | some (.dic kvs) => .dic kvs
      | some (.ins c fs) => .ins c fs
      | _ => .ref i) = .ins c fs := e
    cases hc : M[i]? with
    | none => rw [hc] at e'; cases e'
    | some cl =>
      rw [hc] at e'
      cases cl with
      | ins d ys =>
        cases e'
        obtain ⟨dx, fs', h1, h2⟩ := R.cel i a _ hi hc
        exact ⟨a, dx, fs', rfl, h1, h2⟩
      | _ => cases e'
  | _ => cases e
/-- the methods of the name j, one for each class -/
def MethOk (g : Gx) (W : WX) (C : Ctx) (X : Cx) (j : Nat) (ks : List Str) (cs : List CE) (as : List CE) : Prop :=
  ∀ c f, C.G.meths.lookup (c, j) = some f → Cls X.K (g.ca c) ∧ Meth X.K (g.ca c) (g.nm j) (g.fa f) ∧ ∃ (k : Nat) (fd : FuncData) (ps : List Str) (pat : List (Option Dfl)),
    FnG X.prog X.w X.K X.mg X.base (L2.CX X.prog X.w) k (g.fa f) fd ps (spOf g C.call f) ∧ Room k X.A ∧ GB X.K fd ps (none :: pat) ks ∧ cs.length = holes pat ∧ DflOk g pat ∧ as = argsOf pat cs
theorem se_met {co : CE} {j : Nat} {as : List CE} {pl : Sem Bool} (hj : InjAt g j) (hM : MethOk g W C X j ks cs as) (hgd : X.A.guards = some []) (tk : Takes X W) (ho : SE g W C X o co) (ha : CallArgs g W C X es kws pos ks cs)
    (ht : eval (.Call (.Attribute o (g.nm j) apos) es kws pos) X.env = (do
      let ov ← eval o X.env
      standAt apos.atName
      let (f, first) ← holding [ov] (getMethod ov (g.nm j) pl)
      callWith pos f first (backTo pos (starEach es X.env)) (backToKw pos (keywordEach kws X.env)))) : SE g W C X (.Call (.Attribute o (g.nm j) apos) es kws pos) (.met co j as) :=
  ⟨fun pins s σ H Q I ⟨ρ, M, ε, T, R, h⟩ => by
    refine PySem.W.methodCall_KW (pl := pl) (thn (ho.run pins s σ H (fun x H1 => ∃ ρ1 M1 p, Rl g ρ1 M1 H1 ε ((p, x) :: T) σ ∧ resW g W (match rd M1 p with
      | .ins c fs => (match C.G.meths.lookup (c, j), fs.lookup j with
        | some f, none => (evs C as ε M1).bind fun vs M => C.call f (p :: vs) M
        | _, _ => .stuck)
      | _ => .stuck) ε T σ (EndQ g Q)) I (tR.of R h fun p ρ1 M1 H1 x R1 h1 => ⟨ρ1, M1, p, R1, h1⟩)) fun u s1 ⟨x, H1, I1, rx, ρ1, M1, p, R1, h1⟩ => ?_) ht
    split at h1
    · rename_i c fs e1
      split at h1
      · rename_i f e2 e3
        obtain ⟨a, dx, fs', rfl, ea, rf⟩ := R1.insAt R1.head e1
        cases (show u = Value.ref a from rx)
        obtain ⟨hc, hm, k, fd, ps, pat, F, hr, hb, hl, hd, rfl⟩ := hM c f e2
        refine getmeth_ok I1 ea hc hm ((RVf.get hj rf).1 e3) ?_
        unfold argsOf at h1
        rw [evs_fill hl, bind_bind] at h1
        refine ha _ [.ref a] pins s1 ρ1 M1 H1 ε ((p, .ref a) :: T) σ _ _ _ hm.kp I1 R1 (h1.more fun q hq => List.mem_cons_of_mem _ hq) fun us ws ps' vs s2 ρ2 M2 H2 T1 hT I2 R2 rv r hl1 hl2 h2 => ?_
        have hlen : us.length + ws.length = holes pat := by
          have a1 := r.length
          have a2 := rv.length
          rw [List.length_append] at a1
          omega
        have hp : RV g ρ2 M2 H2 p (.ref a) := R2.tmp (p, .ref a) (hT _ List.mem_cons_self)
        have hbb := hb s2 (.ref a :: us) ws I2.kIn (by show us.length + 1 + ws.length = holes pat + 1; omega) hl2
        exact fn_run F hr hgd hbb (passAt tk σ) I2 (Paired.cons (show RelV (V.ref a) (Value.ref a) from rfl) (fill_Vals (fun d hd' => (hd d hd').2) r)) ⟨ρ2, M2, slots ε σ ++ T1, _, R2.pack, .cons hp (fill_RVs (fun d hd' => (hd d hd').1 _ _ _) (by omega) rv), resW.toC R2 h2⟩
      · exact h1.elim
    · exact h1.elim⟩
end
end
end WT
set_option maxRecDepth 100000
set_option autoImplicit false
/-! Calls, 3: classes, attributes. -/
namespace WT
open PySem PySem.Spec PyProof.Rows L2

section
variable {g : Gx} {W : WX} {C : Ctx} {X : Cx} {e o : Expr} {es : List Expr} {kws : List Keyword} {cs ds : List CE} {x m : Str} {p pos apos kpos : Pos} {ks : List Str} {nm : Option Str}
/-- a class's call, from its __init__'s promise -/
theorem mk_spec {C' : Ctx} {c init : Nat} {fr : Bool} {as : List PV} {vs : List V} {ρ : List Addr} {M : Mem} {H : Hp} {T : List (PV × V)} {Q : VK} {E : XK} (R : Rl g ρ M H [] T []) (rv : RVs g ρ M H as vs) (h : resC g (runFn C' (.mk c init fr) as M) T Q E)
    {y dx : Addr} (hy : H y = none) (hd : H dx = none) (ne : dx ≠ y) : spOf g C'.call init (.ref y :: vs) (upd (upd H dx (.own y)) y (.ins (g.ca c) dx [])) (fun v H2 => v = .non ∧ Q (.ref y) H2) E := by
  have hy1 : upd H dx (.own y) y = none := by rw [upd_ne ne.symm]; exact hy
  have R1 := (R.pushs rv.zipMem).alloc (o := .own y) hd
  have R2 := R1.new (c := .ins c []) (o := .ins (g.ca c) dx []) hy1 ⟨dx, [], upd_same, by unfold RVf; rfl⟩
  have hn : (ρ ++ [y])[M.length]? = some y := by rw [← R.len]; simp
  have hp : RV g (ρ ++ [y]) (M ++ [.ins c []]) (upd (upd H dx (.own y)) y (.ins (g.ca c) dx [])) (.ref M.length) (.ref y) := by unfold RV; exact ⟨y, rfl, hn⟩
  have rv2 : RVs g (ρ ++ [y]) (M ++ [.ins c []]) (upd (upd H dx (.own y)) y (.ins (g.ca c) dx [])) as vs := RVs.ofZip rv.length fun q hq => R2.tmp q (List.mem_append_left _ hq)
  have R3 : Rl g (ρ ++ [y]) (M ++ [.ins c []]) (upd (upd H dx (.own y)) y (.ins (g.ca c) dx [])) [] ((PV.ref M.length, V.ref y) :: T) [] := (R2.push hp).weak fun q hq => by
    obtain rfl | hq := List.mem_cons.mp hq
    · exact List.mem_cons_self
    · exact List.mem_cons_of_mem _ (List.mem_append_right _ hq)
  refine ⟨_, _, _, .ref M.length :: as, R3, .cons hp rv2, ?_⟩
  have h : resC g ((C'.call init (.ref M.length :: as) (M ++ [.ins c []])).bind fun r M1 => mkEnd fr M r M1) T Q E := h
  cases q : C'.call init (.ref M.length :: as) (M ++ [.ins c []]) with
  | stuck => rw [q] at h; exact h.elim
  | err x M1 =>
    rw [q] at h
    exact fun ρ4 H4 cls d R4 rx => h ρ4 H4 cls d R4.tail rx
  | ok r M1 =>
    rw [q] at h
    intro ρ4 H4 R4 v hv
    have hr : RV g ρ4 M1 H4 (.ref M.length) (.ref y) := R4.head
    have h : resC g (mkEnd fr M r M1) T Q E := h
    cases r with
    | non =>
      refine ⟨hv.non, ?_⟩
      cases fr with
      | false => exact h ρ4 H4 R4.tail _ hr
      | true =>
        have h : resC g (mkFrz M M1) T Q E := h
        unfold mkFrz at h
        split at h
        · rename_i d fs e1
          unfold RV at hr
          obtain ⟨a, ea, hi⟩ := hr
          cases ea
          obtain ⟨dx', fs', h1, h2⟩ := R4.cel _ _ _ hi e1
          have R5 := R4.tail.dead hi
          have hv5 : RV g ρ4 (M1.set M.length .dead) H4 (.ins d fs) (.ref y) := by
            unfold RV
            exact ⟨y, dx', fs', rfl, ⟨h1, dead_not_live R4 hi e1 (fun z => nomatch z)⟩, RVf.later R4.cells (Lat.dead hi) h2⟩
          obtain ⟨ρ6, R6, k6⟩ := R.fin (p := .ins d fs) R5
          exact h ρ6 H4 R6 _ (k6 _ hv5)
        · exact h.elim
    | _ => cases fr <;> exact h.elim
variable {k f c init : Nat} {fr : Bool} {fd : FuncData} {ps : List Str} {pat : List (Option Dfl)} {C' : Ctx}
theorem se_mk (hC : C.call f = fun as M => runFn C' (.mk c init fr) as M) (hmk : Mk X.K (g.ca c) (g.fa init)) (F : FnG X.prog X.w X.K X.mg X.base (L2.CX X.prog X.w) k (g.fa init) fd ps (spOf g C'.call init)) (hr : Room (k + 1) X.A) (hgd : X.A.guards = some []) (hg : Gl X x) (hm : X.mg x = some (.ref (g.ca c)))
    (hb : GB X.K fd ps (none :: pat) ks) (hl : cs.length = holes pat) (hd : DflOk g pat) (tk : Takes X W) (hdb : (x == ("__debug__" : Str)) = false) (ha : CallArgs g W C X es kws pos ks cs) : SE g W C X (.Call (.Name x p) es kws pos) (.call f (argsOf pat cs)) :=
  ⟨fun pins s σ H Q I ⟨ρ, M, ε, T, R, h⟩ => by
    have h : resW g W ((evs C (argsOf pat cs) ε M).bind fun vs M => C.call f vs M) ε T σ (EndQ g Q) := h
    unfold argsOf at h
    rw [evs_fill hl, bind_bind] at h
    refine wpAny_Call_Name_kw ?_
    refine ld_glob I hg hm ?_ hdb
    refine ha _ [] pins s ρ M H ε T σ _ _ _ hmk.kp I R h fun us ws ps' vs s1 ρ1 M1 H1 T1 hT I1 R1 rv r hl1 hl2 h1 => ?_
    have hlen : us.length + ws.length = holes pat := by
      have a1 := r.length
      have a2 := rv.length
      rw [List.length_append] at a1
      omega
    have h2 : resW g W (C.call f (fill (pat.map (·.map (·.p))) ps') M1) ε T1 σ (EndQ g Q) := h1
    rw [hC] at h2
    have rv2 := fill_RVs (fun d hd' => (hd d hd').1 ρ1 M1 H1) (by omega) rv
    exact mk_run hmk F hr hgd (fun s' hk y => hb s' (y :: us) ws hk (by show us.length + 1 + ws.length = holes pat + 1; omega) hl2) (passAt tk σ) I1 (fill_Vals (fun d hd' => (hd d hd').2) r)
      fun y dx hy hdx ne => mk_spec R1.pack rv2 (resW.toC R1 h2) hy hdx ne⟩

/-! ### attributes -/
/-- an exception's attribute -/
def ExcAttr (g : Gx) (X : Cx) (c j : Nat) : Prop := ∀ {pins : List (Addr × Obj)} {s : Shared} {σ : SS} {H : Hp} {a dx : Addr} {fs : List (Str × V)} {v : V} {E : Value → Shared → Prop} {b : Bool} {Q : Value → Shared → Prop}, Inv X pins σ H s → H a = some (XO (.ref (g.ca c)) (some dx) a) → H dx = some (.xd fs) → fs.lookup (g.nm j) = some v →
  (∀ u s', Inv X pins σ H s' → RelV v u → Q u s') → wpAny (model X.prog X.w) X.A (getAttr (.ref a) (g.nm j) b) Q E s
structure FldOk (g : Gx) (C : Ctx) (X : Cx) (j : Nat) : Prop where
  inj : InjAt g j
  fld : ∀ c, C.G.flds.contains (c, j) = true → Cls X.K (g.ca c) ∧ NoAttr X.K (g.ca c) (g.nm j)
  prop : ∀ c f, C.G.props.lookup (c, j) = some f → Cls X.K (g.ca c) ∧ (∃ p, PropOf X.K (g.ca c) (g.nm j) p (g.fa f)) ∧ ∃ (k : Nat) (fd : FuncData) (ps : List Str), FnG X.prog X.w X.K X.mg X.base (L2.CX X.prog X.w) k (g.fa f) fd ps (spOf g C.call f) ∧ Room (k + 1) X.A ∧ GB X.K fd ps [none] []
  exc : ∀ c, C.G.xflds.contains (c, j) = true → ExcAttr g X c j
theorem cx_never {P : Program} {w : World} {l : List PySem.Env} {H : Hp} {s s' : Shared} {e : Value} : ¬ L2.CX P w l H s (fun _ _ _ => False) e s' := fun ⟨_, _, _, _, _, _, _, _, _, _, _, _, z⟩ => z
theorem passNever {σ : SS} : PassesAt (L2.CX X.prog X.w) X.nox σ (fun _ _ _ => False) := fun _ _ _ _ _ _ c => (cx_never c).elim
theorem se_fld {j : Nat} {co : CE} (hf : FldOk g C X j) (hgd : X.A.guards = some []) (ho : SE g W C X o co) (hb : attributeBase o (g.nm j) X.env (eval o X.env) = eval o X.env) : SE g W C X (.Attribute o (g.nm j) pos) (.fld co j) :=
  ⟨fun pins s σ H Q I ⟨ρ, M, ε, T, R, h⟩ => by
    refine attr_of hb (thn (ho.run pins s σ H (fun x H1 => ∃ ρ1 M1 p, Rl g ρ1 M1 H1 ε ((p, x) :: T) σ ∧ resW g W (match rd M1 p with
      | .ins c fs => (match fs.lookup j with
        | some v => (match C.G.flds.contains (c, j) with
          | true => .ok v M1
          | false => .stuck)
        | none => (match C.G.props.lookup (c, j) with
          | some f => (match C.call f [p] M1 with
            | .ok v M => .ok v M
            | _ => .stuck)
          | none => .stuck))
      | .exc c fs => (match C.G.xflds.contains (c, j) with
        | true => ofOpt M1 (fs.lookup j)
        | false => .stuck)
      | _ => .stuck) ε T σ (EndQ g Q)) I (tR.of R h fun p ρ1 M1 H1 x R1 h1 => ⟨ρ1, M1, p, R1, h1⟩)) fun u s1 ⟨x, H1, I1, rx, ρ1, M1, p, R1, h1⟩ => ?_)
    split at h1
    · rename_i c fs e1
      obtain ⟨a, dx, fs', rfl, ea, rf⟩ := R1.insAt R1.head e1
      cases (show u = Value.ref a from rx)
      split at h1
      · rename_i w e2
        split at h1
        · rename_i e3
          obtain ⟨hc, hn⟩ := hf.fld c e3
          obtain ⟨v, e4, rv⟩ := (RVf.get hf.inj rf).2 w e2
          exact getattr_ok I1 ea hc hn e4 fun u' s2 I2 ru => ⟨v, H1, I2, ru, h1.ok R1.tail v rv⟩
        · exact h1.elim
      · split at h1
        · rename_i f e3
          obtain ⟨hc, ⟨q, hp⟩, k, fd, ps, F, hr, hbb⟩ := hf.prop c f e3
          refine prop_run (E := fun _ _ _ => False) ea hc hp F hr hgd (fun s' hk y => hbb s' [y] [] hk rfl rfl) (fun e s' => cx_never) I1 ⟨ρ1, M1, slots ε σ ++ ((p, .ref a) :: T), [p], R1.pack, .one R1.head, ?_⟩
          split at h1
          · rename_i v M2 e4
            rw [e4]
            exact fun ρ3 H3 R3 z rz => h1 ρ3 H3 (R1.unpack R3).tail z rz
          · exact h1.elim
        · exact h1.elim
    · rename_i c fs e1
      split at h1
      rotate_left
      · exact h1.elim
      rename_i ec
      obtain ⟨w, e2, h2⟩ := ofOpt_ok h1
      have e0 : p = .exc c fs := rd_scal e1 rfl
      have hp := R1.head
      rw [e0] at hp
      have hp : RV g ρ1 M1 H1 (.exc c fs) x := hp
      unfold RV at hp
      obtain ⟨a, rfl, na, hh⟩ := hp
      cases (show u = Value.ref a from rx)
      rcases hh with ⟨rfl, _⟩ | ⟨dx, fs', ha, hd, nd, rf⟩
      · cases e2
      · obtain ⟨v, e4, rv⟩ := (RVf.get hf.inj rf).2 w e2
        exact hf.exc c ec I1 ha hd e4 fun u' s2 I2 ru => ⟨v, H1, I2, ru, h2.ok R1.tail v rv⟩
    · exact h1.elim⟩
end
end WT
set_option maxRecDepth 100000
set_option autoImplicit false
/-! Exceptions, 1: attributes, raise. -/
namespace WT
open PySem PySem.Spec PyProof.Rows L2

section
variable {g : Gx} {W : WX} {C : Ctx} {X : Cx} {e o : Expr} {es : List Expr} {kws : List Keyword} {cs ds : List CE} {x m : Str} {p pos apos kpos : Pos}
theorem xo_at {pins : List (Addr × Obj)} {s : Shared} {σ : SS} {H : Hp} {cls : Value} {d : Option Addr} {a : Addr} (I : Inv X pins σ H s) (h : H a = some (XO cls d a)) : ∃ oe vs, s.heap.get? a = some oe ∧ Zc cls d oe ∧ oe.data = .fields vs := by
  have z : ObjOk X.prog X.w H s.heap a (.ext fun h => ∃ (oe : Obj) (vs : Array Value), h.get? a = some oe ∧ Zc cls d oe ∧ oe.data = .fields vs) := I.hok a _ h
  exact z.1
theorem xo_ok {P : Program} {w : World} {H : Hp} {h : Heap} {cls : Value} {d : Option Addr} {a : Addr} {oe : Obj} {vs : Array Value} (e : h.get? a = some oe) (z : Zc cls d oe) (hd : oe.data = .fields vs) : ObjOk P w H h a (XO cls d a) :=
  ⟨⟨oe, vs, e, z, hd⟩, ⟨oe, e⟩, fun _ _ ⟨o, v, q, r⟩ k => ⟨o, v, k o q, r⟩⟩
theorem excAttr {c j : Nat} (T : XfC X.K (g.ca c)) (hno : PySem.W.findIn X.K (.ref (g.ca c)) (g.nm j) = some none) : ExcAttr g X c j := by
  intro pins s σ H a dx fs v E b Q I ha hd hl hQ
  obtain ⟨oe, vs, h1, hz, h2⟩ := xo_at I ha
  have hx : ObjOk X.prog X.w H s.heap dx (.xd fs) := I.hok dx _ hd
  obtain ⟨mA, hns, hr⟩ := hx
  obtain ⟨od, ho, hlk⟩ := lookIn_ns hns
  obtain ⟨u, hu, ru⟩ := RelO.some_of (v := v) (o := mA (g.nm j)) (by rw [← hl]; exact hr (g.nm j))
  have J : PySem.W.InstAt s.heap a oe (g.ca c) (some od) := ⟨h1, hz.1, by unfold PySem.W.notCls; rw [h2] <;> rfl, by rw [hz.2]; exact ho⟩
  exact HandSPX.exc_get I.kIn J T.ga T.gg T.exC (PySem.W.findObj_own T.hdC hno rfl (by rw [hlk, hu])) (handed_of ru) (hQ u _ (I.tok _) ru)

/-! ### an own exception's __init__: B.__init__(self, 'm'); self.f = value -/
/-- what is promised of it -/
def spX (C : Addr) (f : Str) : Sp := fun vs H Q _ => ∃ a y, vs = [.ref a, y] ∧ H a = some (exo a C none) ∧ ∀ dx, H dx = none → dx ≠ a → Q .non (upd (upd H dx (exd dx [(f, y)])) a (exo a C (some dx)))
end
/-- the body -/
def xbody (B f n : Str) (m : Str) (k : Nat) (p1 p2 p3 p4 p5 p6 p7 p8 p9 p10 : Pos) : List Stmt :=
  [.Expr (.Call (.Attribute (.Name B p1) "__init__" p2) [.Name "self" p3, .Constant (.str m) k p4] [] p5) p6, .Assign [.Attribute (.Name "self" p7) f p8] (.Name n p9) p10]
section
variable {X : Cx} {p1 p2 p3 p4 p5 : Pos}
theorem pe_base {B m : Str} {k : Nat} {bc cl : Addr} {mc : Value} {pl : Sem Bool} (T : OexC X.K cl) (hg : Gl X B) (hm : X.mg B = some (.ref bc)) (hd : (B == ("__debug__" : Str)) = false) (r : ClX.CRead X.K bc mc) (hv : PySem.W.findCls X.K (.ref bc) mc "__init__" = some (.val (.builtin "ValueError.__init__")))
    (hN : X.N[0]? = some ("self" : Str)) (hs : Vis X.env.scope "self")
    (hc : eval (.Call (.Attribute (.Name B p1) "__init__" p2) [.Name "self" p3, .Constant (.str m) k p4] [] p5) X.env = (do
      let ov ← eval (.Name B p1) X.env
      standAt p2.atName
      let (f, first) ← holding [ov] (getMethod ov "__init__" pl)
      callWith p5 f first (backTo p5 (starEach [.Name "self" p3, .Constant (.str m) k p4] X.env)) (backToKw p5 (keywordEach [] X.env)))) :
    PE X (.Call (.Attribute (.Name B p1) "__init__" p2) [.Name "self" p3, .Constant (.str m) k p4] [] p5) (fun σ H Q => ∃ a, σ[0]? = some (some (.ref a)) ∧ H a = some (exo a cl none) ∧ Q .non H) := by
  refine ⟨fun pins s σ H Q I ⟨a, h1, h2, q⟩ => ?_⟩
  refine PySem.W.methodCall_KW (ld_glob I hg hm ?_ hd) hc
  refine PySem.W.method_cls I.kIn r.ga (PySem.W.cls_value I.kIn r.rd hv (by decide +kernel) ?_)
  have ha : PA X [.Name "self" p3, .Constant (.str m) k p4] (tCons (tVar 0) (tCons (tC (.str m)) tNil)) := pa_cons (pe_var hN hs (by decide) (by decide)) (pa_cons pe_str pa_nil)
  show wpAny _ _ (callWith p5 (Value.builtin "ValueError.__init__") [] (backTo p5 (starEach [.Name "self" p3, .Constant (.str m) k p4] X.env)) []) _ _ _
  refine PyProof.Rows.callWith_method1 (thn (ha.run p5 pins _ σ H (fun vs H1 => vs = [.ref a, .str m] ∧ H1 = H) (I.tok _) ⟨_, h1, rfl, rfl⟩) fun us s1 ⟨vs, H1, I1, r1, ev, eH⟩ => ?_) rfl rfl
  subst ev eH
  cases r1 with
  | @cons _ u0 _ ur ra rw' =>
    cases (show u0 = Value.ref a from ra)
    have hlen : ur.length ≤ sizeLine := by
      rw [← Paired.length rw', sizeLine_eq]
      show 1 ≤ _
      omega
    exact oinit_ok T I1 h2 hlen fun s' J => ⟨.non, H1, J, rfl, q⟩
end
theorem fnX {P : Program} {w : World} {K : PySem.W.Frag} {mg : Str → Option Value} {base : Heap} {j k : Nat} {fa cl bc : Addr} {name qual : Str} {params : Arguments} {scope : Scope} {dV kV doc pm cdv ct oc mc : Value} {an od : Option Addr} {osl : Array (Option Value)} {B f n m : Str} {p1 p2 p3 p4 p5 p6 p7 p8 p9 p10 : Pos} {pl : PySem.Env → Sem Bool}
    (lk : K.lookup fa = some ⟨oc, od, .func (PySem.W.fnOf name qual params (xbody B f n m k p1 p2 p3 p4 p5 p6 p7 p8 p9 p10) scope dV kV doc pm an cdv ct), osl⟩) (hcd : PySem.W.codeIn K cdv qual = true) (S : FnScope ["self", n] ["self", n] scope)
    (T : OexC K cl) (hno : PySem.W.findIn K (.ref cl) f = some none) (hBm : mg B = some (.ref bc)) (hBg : ∀ X : Cx, X.env.scope = scope → X.mg = mg → Gl X B) (hBd : (B == ("__debug__" : Str)) = false) (r : ClX.CRead K bc mc) (hv : PySem.W.findCls K (.ref bc) mc "__init__" = some (.val (.builtin "ValueError.__init__")))
    (hn : Vis scope n) (hs : Vis scope "self") (hnd : (n == ("__debug__" : Str)) = false) (hncd : (n == ("__classdict__" : Str)) = false)
    (hc : ∀ env : PySem.Env, eval (.Call (.Attribute (.Name B p1) "__init__" p2) [.Name "self" p3, .Constant (.str m) k p4] [] p5) env = (do
      let ov ← eval (.Name B p1) env
      standAt p2.atName
      let (f, first) ← holding [ov] (getMethod ov "__init__" (pl env))
      callWith p5 f first (backTo p5 (starEach [.Name "self" p3, .Constant (.str m) k p4] env)) (backToKw p5 (keywordEach [] env)))) : FnOk P w K mg base (L2.CX P w) (j + 1) fa (PySem.W.fnOf name qual params (xbody B f n m k p1 p2 p3 p4 p5 p6 p7 p8 p9 p10) scope dV kV doc pm an cdv ct) ["self", n] (spX cl f) := by
  refine fn_of lk hcd S (fun vs H Q E ⟨a, y, e, _⟩ => by rw [e]; rfl) fun A outer s H vs Q E hr ⟨a, y, ev, ha, hq⟩ => ?_
  subst ev
  refine ⟨_, pss_cons (ps_expr (pe_base (pl := pl _) T (hBg _ rfl rfl) hBm hBd r hv rfl hs (hc _)) rfl) (pss_one (ps_ost (pe_var (i := 0) rfl hs (by decide) (by decide)) (pe_var (i := 1) rfl hn hnd hncd) rfl)), ?_⟩
  refine ⟨a, rfl, ha, ⟨y, rfl, .ref a, rfl, a, cl, rfl, T, hno, .inl ⟨ha, fun dx h1 h2 => hq dx h1 h2⟩⟩⟩
end WT
set_option maxRecDepth 100000
set_option autoImplicit false
/-! Statements, 1. -/
namespace WT
open PySem PySem.Spec PyProof.Rows L2

/-- a statement's outcome, told -/
def outW (g : Gx) (W : WX) (o : Out) (T : List (PV × V)) (D : Ends) : Prop := match o with
  | .nx ε M => ∀ ρ H σ, Rl g ρ M H ε T σ → D.nx σ H
  | .bk ε M => ∀ ρ H σ, Rl g ρ M H ε T σ → D.bk σ H
  | .ct ε M => ∀ ρ H σ, Rl g ρ M H ε T σ → D.ct σ H
  | .rt v M => ∀ ρ H, Rl g ρ M H [] T [] → ∀ x, RV g ρ M H v x → D.rt x H
  | .er e ε M => ∀ ρ H cls d σ, Rl g ρ M H ε T σ → RX g ρ M H e cls d → W cls d σ H
  | .stuck => False
def tO (g : Gx) (W : WX) (f : WT.Env → Mem → Out) : TS := fun D σ H => ∃ ρ M ε T, Rl g ρ M H ε T σ ∧ outW g W (f ε M) T D
mutual
def ctS : CT → List Nat
  | .nm i => [i]
  | .tup ts => ctSs ts
def ctSs : List CT → List Nat
  | [] => []
  | t :: ts => ctS t ++ ctSs ts
end
/-- the slots but those of js stand -/
def Agr (js : List Nat) (σ σ' : SS) : Prop := σ'.length = σ.length ∧ ∀ j : Nat, j ∉ js → σ'[j]? = σ[j]?
def tG (g : Gx) (ct : CT) : TG := fun v σ H Q => ∃ ρ M ε T p ε', Rl g ρ M H ε T σ ∧ RV g ρ M H p v ∧ bindT ct p ε M = some ε' ∧ ∀ σ', Rl g ρ M H ε' T σ' → Agr (ctS ct) σ σ' → Q σ' H
def tGs (g : Gx) (cts : List CT) : TGs := fun vs σ H Q => ∃ ρ M ε T ps ε', Rl g ρ M H ε T σ ∧ RVs g ρ M H ps vs ∧ bindTs cts ps ε M = some ε' ∧ ∀ σ', Rl g ρ M H ε' T σ' → Agr (ctSs cts) σ σ' → Q σ' H
section
variable {g : Gx} {W : WX} {C : Ctx} {X : Cx} {e o : Expr} {es : List Expr} {x : Str} {p pos pos' : Pos}
abbrev SS1 (g : Gx) (W : WX) (C : Ctx) (X : Cx) (s : Stmt) (c : CS) : Prop := PS X s (tO g W (ex C c))
abbrev SSs (g : Gx) (W : WX) (C : Ctx) (X : Cx) (s : List Stmt) (c : List CS) : Prop := PSs X s (tO g W (exs C c))
theorem outW.res {α : Type} {r : Res α} {ε : WT.Env} {k : α → Mem → Out} {T : List (PV × V)} {D : Ends} (h : outW g W (r.out ε k) T D) (σ : SS) : resW g W r ε T σ fun p ρ M H => outW g W (k p M) T D := by
  cases r with
  | ok p M => exact fun ρ H R => h
  | err e M => exact fun ρ H cls d R rx => h ρ H cls d σ R rx
  | stuck => exact h
theorem outW.more {o : Out} {T T' : List (PV × V)} {D : Ends} (h : outW g W o T D) (k : ∀ q ∈ T, q ∈ T') : outW g W o T' D := by
  cases o with
  | nx ε M => exact fun ρ H σ R => h ρ H σ (R.weak k)
  | bk ε M => exact fun ρ H σ R => h ρ H σ (R.weak k)
  | ct ε M => exact fun ρ H σ R => h ρ H σ (R.weak k)
  | rt v M => exact fun ρ H R => h ρ H (R.weak k)
  | er e ε M => exact fun ρ H cls d σ R => h ρ H cls d σ (R.weak k)
  | stuck => exact h
/-- the frame's slots are forgotten -/
theorem Rl.out {ρ : List Addr} {M : Mem} {H : Hp} {ε : WT.Env} {T : List (PV × V)} {σ : SS} (R : Rl g ρ M H ε T σ) : Rl g ρ M H [] T [] := R.blank []

/-! ### targets -/
theorem sg_name {i : Nat} (hN : X.N.Nodup) (hi : X.N[i]? = some x) (hx : Loc X.env.scope x) (hf : X.fn x = true ∨ X.env.scope.names.lookup x = some .local) : PG X (.Name x p) (tG g (.nm i)) :=
  ⟨fun pins s σ H v u Q I r ⟨ρ, M, ε, T, q, ε', R, hq, e, h⟩ => (pg_name (pos := p) hN hi hx hf).run pins s σ H v u Q I r (by
    cases (show some (ε.set i (some q)) = some ε' from e)
    exact h _ (R.set hq) ⟨List.length_set, fun j hj => List.getElem?_set_ne fun z => hj (by rw [← z]; exact List.mem_cons_self)⟩)⟩
theorem sgs_nil : PGs X [] (tGs g []) := ⟨fun pins s σ H vs us Q I r ⟨ρ, M, ε, T, ps, ε', R, hp, e, h⟩ => by
  cases ps with
  | nil =>
    cases (show some ε = some ε' from e)
    unfold RVs at hp
    exact pgs_nil.run pins s σ H vs us Q I r ⟨hp, h σ R ⟨rfl, fun _ _ => rfl⟩⟩
  | cons a b => cases e⟩
theorem sgs_cons {t : CT} {ts : List CT} (h1 : PG X e (tG g t)) (h2 : PGs X es (tGs g ts)) (hs : (assignEach (e :: es) X.env).map (·.2) = assign e X.env :: (assignEach es X.env).map (·.2)) : PGs X (e :: es) (tGs g (t :: ts)) :=
  ⟨fun pins s σ H vs us Q I r ⟨ρ, M, ε, T, ps, ε', R, hp, e, h⟩ => by
    cases ps with
    | nil => cases e
    | cons a b =>
      have e : ((bindT t a ε M).bind fun ε => bindTs ts b ε M) = some ε' := e
      unfold RVs at hp
      obtain ⟨v, vr, rfl, ha, hb⟩ := hp
      cases e1 : bindT t a ε M with
      | none => rw [e1] at e; cases e
      | some ε1 =>
        rw [e1] at e
        refine (pgs_cons h1 h2 hs).run pins s σ H _ us Q I r ⟨v, vr, rfl, ρ, M, ε, b.zip vr ++ T, a, ε1, R.pushs hb.zipMem, ha, e1, fun σ1 R1 a1 => ?_⟩
        exact ⟨ρ, M, ε1, b.zip vr ++ T, b, ε', R1, hb, e, fun σ2 R2 a2 => h σ2 (R2.weak fun q hq => List.mem_append_right _ hq) ⟨a2.1.trans a1.1, fun j hj => (a2.2 j fun z => hj (List.mem_append_right _ z)).trans (a1.2 j fun z => hj (List.mem_append_left _ z))⟩⟩⟩
theorem bindTs_len {M : Mem} : ∀ {ts : List CT} {ps : List PV} {ε ε' : WT.Env}, bindTs ts ps ε M = some ε' → ps.length = ts.length
  | [], [], _, _, _ => rfl
  | [], _ :: _, _, _, e => by cases e
  | _ :: _, [], _, _, e => by cases e
  | t :: ts, a :: b, ε, ε', e => by
    have e : ((bindT t a ε M).bind fun ε => bindTs ts b ε M) = some ε' := e
    cases e1 : bindT t a ε M with
    | none => rw [e1] at e; cases e
    | some ε1 =>
      rw [e1] at e
      simp [bindTs_len (ts := ts) e]
theorem sg_tup {k : Nat} {ts : List CT} (hK : X.K = g.K) (hc : X.calm = true) (h : PGs X es (tGs g ts)) (hn : (assignEach es X.env).length = ts.length) (hst : (assignEach es X.env).findIdx? (·.1) = none) : PG X (.Tuple es k p) (tG g (.tup ts)) :=
  ⟨fun pins s σ H v u Q I r ⟨ρ, M, ε, T, q, ε', R, hq, e, hQ⟩ => by
    have e : (match rd M q with
      | .tup xs => bindTs ts xs ε M
      | _ => none) = some ε' := e
    split at e
    · rename_i xs e1
      obtain ⟨_, a, vs, rfl, t, rr⟩ := R.tupAt hq e1
      exact (pg_tup (k := k) (pos := p) (n := ts.length) hc h hn hst).run pins s σ H _ u Q I r ⟨a, vs, rfl, hK ▸ t, by rw [← rr.length]; exact bindTs_len e, ρ, M, ε, T, xs, ε', R, rr, e, hQ⟩
    · cases e⟩

/-! ### simple statements -/
theorem s_nil : SSs g W C X [] [] := ⟨fun pins s σ H D I ⟨ρ, M, ε, T, R, h⟩ => pss_nil.run pins s σ H D I (h ρ H σ R)⟩
theorem s_cons {s : Stmt} {ss : List Stmt} {c : CS} {cs : List CS} (h1 : SS1 g W C X s c) (h2 : SSs g W C X ss cs) : SSs g W C X (s :: ss) (c :: cs) :=
  ⟨fun pins st σ H D I ⟨ρ, M, ε, T, R, h⟩ => (pss_cons h1 h2).run pins st σ H D I ⟨ρ, M, ε, T, R, by
    have h : outW g W ((ex C c ε M).seq fun ε M => exs C cs ε M) T D := h
    cases q : ex C c ε M with
    | nx ε1 M1 =>
      rw [q] at h
      exact fun ρ1 H1 σ1 R1 => ⟨ρ1, M1, ε1, T, R1, h⟩
    | _ => rw [q] at h; exact h⟩⟩
theorem s_pass : SS1 g W C X (.Pass pos) .pass := ⟨fun pins s σ H D I ⟨ρ, M, ε, T, R, h⟩ => ps_pass.run pins s σ H D I (h ρ H σ R)⟩
theorem s_brk : SS1 g W C X (.Break pos) .brk := ⟨fun pins s σ H D I ⟨ρ, M, ε, T, R, h⟩ => ps_break.run pins s σ H D I (h ρ H σ R)⟩
theorem s_cnt : SS1 g W C X (.Continue pos) .cnt := ⟨fun pins s σ H D I ⟨ρ, M, ε, T, R, h⟩ => ps_continue.run pins s σ H D I (h ρ H σ R)⟩
theorem s_expr {c : CE} (he : SE g W C X e c) (hs : swapsWith e none pos.line X.env = pure false) : SS1 g W C X (.Expr e pos) (.expr c) :=
  ⟨fun pins s σ H D I ⟨ρ, M, ε, T, R, h⟩ => (ps_expr he hs).run pins s σ H D I ⟨ρ, M, ε, T, R, (outW.res h σ).imp fun p ρ1 M1 H1 R1 h1 v rv => h1 ρ1 H1 σ R1⟩⟩
theorem s_ret {c : CE} (he : SE g W C X e c) : SS1 g W C X (.Return (some e) pos) (.ret c) :=
  ⟨fun pins s σ H D I ⟨ρ, M, ε, T, R, h⟩ => (ps_ret he).run pins s σ H D I ⟨ρ, M, ε, T, R, (outW.res h σ).imp fun p ρ1 M1 H1 R1 h1 v rv => h1 ρ1 H1 R1.out v rv⟩⟩
theorem s_retN : SS1 g W C X (.Return none pos) .retN := ⟨fun pins s σ H D I ⟨ρ, M, ε, T, R, h⟩ => ps_retN.run pins s σ H D I (h ρ H R.out .non .ofNon)⟩
theorem s_asg {tg : Expr} {t : CT} {c : CE} (he : SE g W C X e c) (hg : PG X tg (tG g t)) (hs : swapsWithSole [tg] e pos.line X.env = pure false) (hw : swappedStores [tg] e X.env = pure none) (h1 : (assignEach [tg] X.env).map (·.2) = [assign tg X.env]) :
    SS1 g W C X (.Assign [tg] e pos) (.asg t c) :=
  ⟨fun pins s σ H D I ⟨ρ, M, ε, T, R, h⟩ => (ps_asg he hg hs hw h1).run pins s σ H D I ⟨ρ, M, ε, T, R, (outW.res h σ).imp fun p ρ1 M1 H1 R1 h1 v rv => by
    split at h1
    · rename_i ε1 e1
      exact ⟨ρ1, M1, ε, T, p, ε1, R1, rv, e1, fun σ' R2 _ => h1 ρ1 H1 σ' R2⟩
    · exact h1.elim⟩⟩
theorem s_set {i : Nat} {c : CE} (hN : X.N.Nodup) (hi : X.N[i]? = some x) (hx : Loc X.env.scope x) (he : SE g W C X e c) (hs : swapsWith e (some (.Name x pos')) pos.line X.env = pure false) (hf : X.fn x = true ∨ X.env.scope.names.lookup x = some .local) : SS1 g W C X (.Assign [.Name x pos'] e pos) (.asg (.nm i) c) :=
  ⟨fun pins s σ H D I ⟨ρ, M, ε, T, R, h⟩ => (ps_set hN hi hx he hs hf).run pins s σ H D I ⟨ρ, M, ε, T, R, (outW.res h σ).imp fun p ρ1 M1 H1 R1 h1 v rv => h1 ρ1 H1 _ (R1.set rv)⟩⟩
theorem s_if {c : Expr} {a b : List Stmt} {cc : CE} {ca cb : List CS} (hc : ST g W C X c cc) (ha : SSs g W C X a ca) (hb : SSs g W C X b cb) : SS1 g W C X (.If c a b pos) (.ife cc ca cb) :=
  ⟨fun pins s σ H D I ⟨ρ, M, ε, T, R, h⟩ => (ps_if hc ha hb).run pins s σ H D I ⟨ρ, M, ε, T, R, (outW.res h σ).imp fun k ρ1 M1 H1 R1 h1 => by
    cases k with
    | true => exact iteT ⟨ρ1, M1, ε, T, R1, h1⟩
    | false => exact iteF ⟨ρ1, M1, ε, T, R1, h1⟩⟩⟩
end
end WT
set_option maxRecDepth 100000
set_option autoImplicit false
/-! What a loop walks. -/
namespace WT
open PySem PySem.Spec PyProof.Rows L2

/-! ### equal trees -/
mutual
theorem PV.beq_eq : ∀ {a b : PV}, PV.beq a b = true → a = b
  | .tup xs, b, e => by
    cases b with
    | tup ys => rw [PV.beqs_eq (a := xs) (b := ys) e]
    | _ => cases e
  | .lst xs, b, e => by
    cases b with
    | lst ys => rw [PV.beqs_eq (a := xs) (b := ys) e]
    | _ => cases e
  | .dic xs, b, e => by
    cases b with
    | dic ys => rw [PV.beqd_eq (a := xs) (b := ys) e]
    | _ => cases e
  | .ins c xs, b, e => by
    cases b with
    | ins d ys =>
      have e : (c == d && PV.beqf xs ys) = true := e
      rw [Bool.and_eq_true] at e
      rw [PV.beqf_eq e.2, eq_of_beq e.1]
    | _ => cases e
  | .exc c xs, b, e => by
    cases b with
    | exc d ys =>
      have e : (c == d && PV.beqf xs ys) = true := e
      rw [Bool.and_eq_true] at e
      rw [PV.beqf_eq e.2, eq_of_beq e.1]
    | _ => cases e
  | .ref i, b, e => by
    cases b with
    | ref j => rw [show i = j from eq_of_beq e]
    | _ => cases e
  | .non, b, e => by cases b <;> first | rfl | cases e
  | .bl i, b, e => by
    cases b with
    | bl j => rw [show i = j from eq_of_beq e]
    | _ => cases e
  | .int i, b, e => by
    cases b with
    | int j => rw [show i = j from eq_of_beq e]
    | _ => cases e
  | .str i, b, e => by
    cases b with
    | str j => rw [show i = j from eq_of_beq e]
    | _ => cases e
  | .cls i, b, e => by
    cases b with
    | cls j => rw [show i = j from eq_of_beq e]
    | _ => cases e
  | .fn i, b, e => by
    cases b with
    | fn j => rw [show i = j from eq_of_beq e]
    | _ => cases e
  | .ty i, b, e => by
    cases b with
    | ty j => rw [show i = j from eq_of_beq e]
    | _ => cases e
  | .lk d o k, b, e => by
    cases b with
    | lk d' o' k' =>
      obtain ⟨rfl, rfl, rfl⟩ := @of_decide_eq_true _ (Classical.propDecidable _) e
      rfl
    | _ => cases e
theorem PV.beqs_eq : ∀ {a b : List PV}, PV.beqs a b = true → a = b
  | [], [], _ => rfl
  | x :: r, y :: s, e => by
    have e : (PV.beq x y && PV.beqs r s) = true := e
    rw [Bool.and_eq_true] at e
    rw [PV.beq_eq e.1, PV.beqs_eq e.2]
theorem PV.beqd_eq : ∀ {a b : List (PV × PV)}, PV.beqd a b = true → a = b
  | [], [], _ => rfl
  | (k, x) :: r, (j, y) :: s, e => by
    have e : (PV.beq k j && (PV.beq x y && PV.beqd r s)) = true := e
    rw [Bool.and_eq_true, Bool.and_eq_true] at e
    rw [PV.beq_eq e.1, PV.beq_eq e.2.1, PV.beqd_eq e.2.2]
theorem PV.beqf_eq : ∀ {a b : List (Nat × PV)}, PV.beqf a b = true → a = b
  | [], [], _ => rfl
  | (k, x) :: r, (j, y) :: s, e => by
    have e : (k == j && (PV.beq x y && PV.beqf r s)) = true := e
    rw [Bool.and_eq_true, Bool.and_eq_true] at e
    rw [eq_of_beq e.1, PV.beq_eq e.2.1, PV.beqf_eq e.2.2]
end

/-! ### the items, told of an iterator -/
structure ItRel (g : Gx) (T : List (PV × V)) (its : Items) (J : It) : Prop where
  go : ∀ (i : Nat) (p : PV) (ρ : List Addr) (M : Mem) (H : Hp) (ε : WT.Env) (σ : SS), Rl g ρ M H ε T σ → still its.2 M = true → its.1[i]? = some p → J.go i H ∧ ∀ x H', J.yld i H x H' → Rl g ρ M H' ε ((p, x) :: T) σ
  stop : ∀ (ρ : List Addr) (M : Mem) (H : Hp) (ε : WT.Env) (σ : SS), Rl g ρ M H ε T σ → still its.2 M = true → J.stop its.1.length H
def tI (g : Gx) (W : WX) (f : WT.Env → Mem → Res Items) : TI := fun σ H R => ∃ ρ M ε T, Rl g ρ M H ε T σ ∧ resW g W (f ε M) ε T σ fun its ρ M H => ∀ J T', (∀ q ∈ T, q ∈ T') → Rl g ρ M H ε T' σ → ItRel g T' its J → R J H
section
variable {g : Gx} {W : WX} {C : Ctx} {X : Cx} {e o : Expr} {es : List Expr} {x : Str} {p pos pos' tpos : Pos} {tg : Expr} {K : PySem.W.Frag} {T : List (PV × V)}
abbrev SI (g : Gx) (W : WX) (C : Ctx) (X : Cx) (tg e : Expr) (c : CI) : Prop := PI X tg e (tI g W (evi C c))
/-- a list's items -/
theorem itl_rel (hK : K = g.K) {q : PV} {a : Addr} {its : Items} (hm : (q, V.ref a) ∈ T) (h : (∃ i xs, q = .ref i ∧ its = (xs, [(i, xs)])) ∨ ∃ xs, q = .lst xs ∧ its = (xs, [])) : ItRel g T its (Itl K a) := by
  have key : ∀ (ρ : List Addr) (M : Mem) (H : Hp) (ε : WT.Env) (σ : SS), Rl g ρ M H ε T σ → still its.2 M = true → ∃ vs, LQ g.K H a vs ∧ RVs g ρ M H its.1 vs := fun ρ M H ε σ R st => by
    have hq := R.tmp _ hm
    rcases h with ⟨i, xs, rfl, rfl⟩ | ⟨xs, rfl, rfl⟩
    · have hq : RV g ρ M H (.ref i) (.ref a) := hq
      unfold RV at hq
      obtain ⟨a', ea, hi⟩ := hq
      cases ea
      have st : ((match M[i]? with
        | some (.lst ys) => PV.beqs ys xs
        | _ => false) && true) = true := st
      rw [Bool.and_true] at st
      split at st
      · rename_i ys e1
        obtain ⟨_, vs, h1, h2⟩ := R.cel i a _ hi e1
        rw [PV.beqs_eq st] at h2
        exact ⟨vs, .inl (.inl h1), h2⟩
      · cases st
    · have hq : RV g ρ M H (.lst xs) (.ref a) := hq
      unfold RV at hq
      obtain ⟨_, a', vs, ea, h1, h2⟩ := hq
      cases ea
      exact ⟨vs, h1.q, h2⟩
  refine ⟨fun i p ρ M H ε σ R st e1 => ?_, fun ρ M H ε σ R st => ?_⟩
  · obtain ⟨vs, h1, h2⟩ := key ρ M H ε σ R st
    obtain ⟨v, e2, rv⟩ := h2.get e1
    refine ⟨⟨vs, v, hK ▸ h1.sq, e2⟩, fun x H' ⟨eh, hx⟩ => ?_⟩
    subst eh
    have := hx vs (hK ▸ h1.sq)
    rw [e2] at this
    cases this
    exact R.push rv
  · obtain ⟨vs, h1, h2⟩ := key ρ M H ε σ R st
    exact ⟨vs, hK ▸ h1.sq, by rw [h2.length]; exact Nat.le_refl _⟩
/-- a tuple's items -/
theorem itt_rel (hK : K = g.K) {xs : List PV} {a : Addr} (hm : (PV.tup xs, V.ref a) ∈ T) : ItRel g T (xs, []) (Itt K a) := by
  subst hK
  have key : ∀ (ρ : List Addr) (M : Mem) (H : Hp) (ε : WT.Env) (σ : SS), Rl g ρ M H ε T σ → ∃ vs, SqT g.K H a vs ∧ RVs g ρ M H xs vs := fun ρ M H ε σ R => by
    have hq : RV g ρ M H (.tup xs) (.ref a) := R.tmp _ hm
    unfold RV at hq
    obtain ⟨_, a', vs, ea, h1, h2⟩ := hq
    cases ea
    exact ⟨vs, h1, h2⟩
  refine ⟨fun i p ρ M H ε σ R st e1 => ?_, fun ρ M H ε σ R st => ?_⟩
  · obtain ⟨vs, h1, h2⟩ := key ρ M H ε σ R
    obtain ⟨v, e2, rv⟩ := h2.get e1
    refine ⟨⟨vs, v, h1, e2⟩, fun x H' ⟨eh, hx⟩ => ?_⟩
    subst eh
    have := hx vs h1
    rw [e2] at this
    cases this
    exact R.push rv
  · obtain ⟨vs, h1, h2⟩ := key ρ M H ε σ R
    exact ⟨vs, h1, by rw [h2.length]; exact Nat.le_refl _⟩
/-- a text's signs -/
theorem its_rel {z : Str} : ItRel g T (z.cps.toList.map fun c => PV.str ⟨#[c]⟩, []) (Its z) := by
  refine ⟨fun i p ρ M H ε σ R st e1 => ?_, fun ρ M H ε σ R st => ?_⟩
  · rw [List.getElem?_map] at e1
    cases e2 : z.cps.toList[i]? with
    | none => rw [e2] at e1; cases e1
    | some c =>
      rw [e2] at e1
      cases e1
      have hi : i < z.cps.size := by
        have := (List.getElem?_eq_some_iff.mp e2).1
        simpa using this
      refine ⟨hi, fun x H' ⟨eh, c', ec, ex⟩ => ?_⟩
      subst eh ex
      rw [← Array.getElem?_toList, e2] at ec
      cases ec
      exact R.push (.ofStr (line_le (by show 1 ≤ 1000; omega)))
  · show z.cps.size ≤ _
    simp
/-- lo, lo + 1, .. -/
theorem itr_rel {lo : Int} {n : Nat} : ItRel g T ((List.range n).map fun (i : Nat) => PV.int (lo + (i : Int)), []) (Itr lo n) := by
  refine ⟨fun i p ρ M H ε σ R st e1 => ?_, fun ρ M H ε σ R st => ?_⟩
  · rw [List.getElem?_map] at e1
    by_cases hi : i < n
    · rw [List.getElem?_range hi] at e1
      cases e1
      exact ⟨hi, fun x H' ⟨eh, ex⟩ => by subst eh ex; exact R.push (.ofInt _)⟩
    · rw [List.getElem?_eq_none (by simpa using hi)] at e1
      cases e1
  · show n ≤ _
    simp
/-- a dict is locked behind its expression -/
def tKeep (td : TE) : TE := fun σ H Q => td σ H fun x H1 => ∃ d kws, x = .ref d ∧ ((H1 d = some (.dK kws) ∧ ∀ z, Q x (upd H1 d (.frz z (.dK kws)))) ∨ ∃ z, H1 d = some (.frz z (.dK kws)) ∧ Q x H1)
theorem pe_keep {td : TE} (he : PE X e td) : PE X e (tKeep td) := by
  refine ⟨fun pins s σ H Q I h => thn (he.run pins s σ H _ I h) fun v s1 ⟨x, H1, I1, r, d, kws, ex, q⟩ => ?_⟩
  rcases q with ⟨hd, q⟩ | ⟨z, hd, q⟩
  · obtain ⟨od, I2⟩ := I1.lock hd trivial
    exact ⟨x, _, I2, r, q od⟩
  · exact ⟨x, _, I1, r, q⟩
/-- .. and what is known then -/
theorem keep_run {kvs : List (PV × PV)} {a : Addr} {ρ : List Addr} {M : Mem} {H : Hp} {ε : WT.Env} {T : List (PV × V)} {σ : SS} (R : Rl g ρ M H ε ((.dic kvs, .ref a) :: T) σ) {Q : V → Hp → Prop}
    (h : ∀ z kws H', H' a = some (.frz z (.dK kws)) → kws.length = kvs.length → Rl g ρ M H' ε ((.lk a z kws, .bl true) :: (.dic kvs, .ref a) :: T) σ → Q (.ref a) H') :
    ∃ d kws, V.ref a = .ref d ∧ ((H d = some (.dK kws) ∧ ∀ z, Q (.ref a) (upd H d (.frz z (.dK kws)))) ∨ ∃ z, H d = some (.frz z (.dK kws)) ∧ Q (.ref a) H) := by
  have rv := R.head
  unfold RV at rv
  obtain ⟨_, a', kws, ea, ⟨o, k, e⟩, rs⟩ := rv
  cases ea
  have hl := rs.length
  rcases e with rfl | ⟨z, rfl⟩
  · refine ⟨a, kws, rfl, .inl ⟨k.1, fun z => h z kws _ upd_same hl.symm ((R.lock k.1 k.2).push ?_)⟩⟩
    show RV g ρ M _ (.lk a z kws) _
    unfold RV
    exact ⟨rfl, upd_same, k.2⟩
  · refine ⟨a, kws, rfl, .inr ⟨z, k.1, h z kws _ k.1 hl.symm (R.push ?_)⟩⟩
    show RV g ρ M _ (.lk a z kws) _
    unfold RV
    exact ⟨rfl, k⟩
/-- at a later state -/
theorem keep_at {kvs : List (PV × PV)} {a : Addr} {z : Obj} {kws : List (Key × V)} {T' : List (PV × V)} {ρ : List Addr} {M : Mem} {H : Hp} {ε : WT.Env} {σ : SS} (h1 : (PV.lk a z kws, V.bl true) ∈ T') (h2 : (PV.dic kvs, V.ref a) ∈ T') (R : Rl g ρ M H ε T' σ) : H a = some (.frz z (.dK kws)) ∧ RVd g ρ M H kvs kws := by
  have r1 := R.tmp _ h1
  have r2 := R.tmp _ h2
  unfold RV at r1 r2
  obtain ⟨_, k1⟩ := r1
  obtain ⟨_, a', kws', ea, ⟨o, k, e⟩, rs⟩ := r2
  cases ea
  have := k.1.symm.trans k1.1
  rcases e with rfl | ⟨z', rfl⟩
  · cases this
  · cases this
    exact ⟨k1.1, rs⟩
theorem RVd.getD {ρ : List Addr} {M : Mem} {H : Hp} : ∀ {kvs : List (PV × PV)} {kws : List (Key × V)} {i : Nat} {k p : PV}, RVd g ρ M H kvs kws → kvs[i]? = some (k, p) → ∃ j v, kws[i]? = some (j, v) ∧ k = kPV j ∧ RV g ρ M H p v
  | [], _, _, _, _, _, e => by simp at e
  | (a, b) :: r, _, 0, k, p, h, e => by
    unfold RVd at h
    obtain ⟨j, v, s, rfl, rfl, h1, _⟩ := h
    cases (show (kPV j, b) = (k, p) from Option.some.inj e)
    exact ⟨j, v, rfl, rfl, h1⟩
  | (a, b) :: r, _, i + 1, k, p, h, e => by
    unfold RVd at h
    obtain ⟨j, v, s, rfl, rfl, _, h2⟩ := h
    obtain ⟨j', v', e1, e2, e3⟩ := RVd.getD (i := i) h2 (by simpa using e)
    exact ⟨j', v', by simpa using e1, e2, e3⟩
theorem key_rv {ρ : List Addr} {M : Mem} {H : Hp} {j : Key} (h : keyFits (kPV j) = true) : RV g ρ M H (kPV j) (kV j) := by
  cases j with
  | inl i => exact .ofInt i
  | inr x => exact .ofStr (by rw [← sline_eq]; exact of_decide_eq_true h)
section
variable {kvs : List (PV × PV)} {a : Addr} {z : Obj} {kws : List (Key × V)} {T' : List (PV × V)}
theorem itk_rel (hf : (kvs.all fun kv => keyFits kv.1) = true) (h1 : (PV.lk a z kws, V.bl true) ∈ T') (h2 : (PV.dic kvs, V.ref a) ∈ T') : ItRel g T' (kvs.map (·.1), []) (Itk a z kws) := by
  refine ⟨fun i p ρ M H ε σ R st e1 => ?_, fun ρ M H ε σ R st => ?_⟩
  · obtain ⟨hd, rs⟩ := keep_at h1 h2 R
    have e1 : (kvs.map (·.1))[i]? = some p := e1
    rw [List.getElem?_map] at e1
    obtain ⟨⟨k, q⟩, ek, rfl⟩ := Option.map_eq_some_iff.mp e1
    obtain ⟨j, v, e2, rfl, _⟩ := rs.getD ek
    refine ⟨⟨hd, (List.getElem?_eq_some_iff.mp e2).1⟩, fun x H' ⟨eh, k', v', e3, ex⟩ => ?_⟩
    subst eh ex
    rw [e2] at e3
    cases e3
    exact R.push (key_rv (List.all_eq_true.mp hf _ (List.mem_of_getElem? ek)))
  · obtain ⟨hd, rs⟩ := keep_at h1 h2 R
    exact ⟨hd, by rw [← rs.length]; simp⟩
theorem itd_rel (h1 : (PV.lk a z kws, V.bl true) ∈ T') (h2 : (PV.dic kvs, V.ref a) ∈ T') : ItRel g T' (kvs.map (·.2), []) (Itd a z kws) := by
  refine ⟨fun i p ρ M H ε σ R st e1 => ?_, fun ρ M H ε σ R st => ?_⟩
  · obtain ⟨hd, rs⟩ := keep_at h1 h2 R
    have e1 : (kvs.map (·.2))[i]? = some p := e1
    rw [List.getElem?_map] at e1
    obtain ⟨⟨k, q⟩, ek, rfl⟩ := Option.map_eq_some_iff.mp e1
    obtain ⟨j, v, e2, rfl, rv⟩ := rs.getD ek
    refine ⟨⟨hd, (List.getElem?_eq_some_iff.mp e2).1⟩, fun x H' ⟨eh, k', e3⟩ => ?_⟩
    subst eh
    rw [e2] at e3
    cases e3
    exact R.push rv
  · obtain ⟨hd, rs⟩ := keep_at h1 h2 R
    exact ⟨hd, by rw [← rs.length]; simp⟩
end
/-- what an expression of a known value says -/
theorem tR.known {c : CE} {β : Type} {k : PV → Mem → Res β} {ρ : List Addr} {M : Mem} {H : Hp} {ε : WT.Env} {T : List (PV × V)} {σ : SS} {Q : VK} {A : β → List Addr → Mem → Hp → Prop} {p0 : PV} {M0 : Mem} (R : Rl g ρ M H ε T σ) (e : ev C c ε M = .ok p0 M0) (h : resW g W ((ev C c ε M).bind k) ε T σ A)
    (hk : ∀ ρ H v, Rl g ρ M0 H ε ((p0, v) :: T) σ → resW g W (k p0 M0) ε T σ A → Q v H) : tR g W (ev C c) σ H Q :=
  ⟨ρ, M, ε, T, R, (h.bind.also (B := fun p M => p = p0 ∧ M = M0) fun p M z => by rw [e] at z; cases z; exact ⟨rfl, rfl⟩).imp fun p ρ M H R' ⟨⟨e1, e2⟩, h'⟩ v rv => by
    subst e1 e2
    exact hk ρ H v (R'.push rv) h'⟩
theorem tR.none {c : CE} {β : Type} {k : PV → Mem → Res β} {ρ : List Addr} {M : Mem} {H : Hp} {ε : WT.Env} {T : List (PV × V)} {σ : SS} {Q : VK} {A : β → List Addr → Mem → Hp → Prop} (R : Rl g ρ M H ε T σ) (e : ∀ p M1, ev C c ε M ≠ .ok p M1) (h : resW g W ((ev C c ε M).bind k) ε T σ A) : tR g W (ev C c) σ H Q :=
  ⟨ρ, M, ε, T, R, (h.bind.also (B := fun _ _ => False) fun p M1 z => e p M1 z).imp fun p ρ M H R' ⟨z, _⟩ v rv => z.elim⟩
theorem si_of {c : CE} (hK : X.K = g.K) (he : SE g W C X e c) : SI g W C X tg e (.of c) :=
  ⟨fun pins s σ H R I ⟨ρ, M, ε, T, Rr, h⟩ => by
    have h : resW g W ((ev C c ε M).bind fun v M => (match srcOf M v with
      | some it => .ok it M
      | none => .stuck)) ε T σ fun its ρ M H => ∀ J T', (∀ q ∈ T, q ∈ T') → Rl g ρ M H ε T' σ → ItRel g T' its J → R J H := h
    cases q : ev C c ε M with
    | ok p0 M0 =>
      have hL : ∀ {its : Items}, srcOf M0 p0 = some its → ((∃ i xs, p0 = .ref i ∧ its = (xs, [(i, xs)])) ∨ ∃ xs, p0 = .lst xs ∧ its = (xs, [])) → wpAny (model X.prog X.w) X.A (eval e X.env) (fun v s1 => wpAny (model X.prog X.w) X.A (pyIter v) (PIE X pins σ tg R) X.xe s1) X.xe s := fun {its} es hs => by
        refine (pi_list (tg := tg) he).run pins s σ H R I (tR.known Rr q h fun ρ1 H1 v R1 h1 => ?_)
        rw [es] at h1
        have hv := R1.head
        have rdl : rd M0 p0 = .lst its.1 := by
          rcases hs with ⟨i, xs, rfl, rfl⟩ | ⟨xs, rfl, rfl⟩
          · have es : (match M0[i]? with
              | some (.lst ys) => some (ys, [(i, ys)])
              | _ => none) = some (xs, [(i, xs)]) := es
            show (match M0[i]? with
              | some (.lst xs) => PV.lst xs
              | some (.dic kvs) => .dic kvs
              | some (.ins c fs) => .ins c fs
              | _ => .ref i) = .lst xs
            split at es
            · rename_i ys e1
              cases es
              rw [e1]
            · cases es
          · rfl
        obtain ⟨_, a, vs, rfl, s1, _⟩ := R1.listAt hv rdl
        exact ⟨a, rfl, ⟨vs, hK ▸ s1.sq⟩, h1.ok R1.tail _ _ (fun _ z => List.mem_cons_of_mem _ z) R1 (itl_rel hK List.mem_cons_self hs)⟩
      cases p0 with
      | ref i =>
        cases e1 : M0[i]? with
        | none =>
          refine (pi_list (tg := tg) he).run pins s σ H R I (tR.known Rr q h fun ρ1 H1 v R1 h1 => ?_)
          have : srcOf M0 (.ref i) = none := by show (match M0[i]? with | some (.lst xs) => some (xs, [(i, xs)]) | _ => none) = none; rw [e1]
          rw [this] at h1
          exact h1.elim
        | some cl =>
          cases cl with
          | lst xs =>
            have es : srcOf M0 (.ref i) = some (xs, [(i, xs)]) := by show (match M0[i]? with | some (.lst xs) => some (xs, [(i, xs)]) | _ => none) = _; rw [e1]
            exact hL es (.inl ⟨i, xs, rfl, rfl⟩)
          | _ =>
            refine (pi_list (tg := tg) he).run pins s σ H R I (tR.known Rr q h fun ρ1 H1 v R1 h1 => ?_)
            have : srcOf M0 (.ref i) = none := by show (match M0[i]? with | some (.lst xs) => some (xs, [(i, xs)]) | _ => none) = none; rw [e1]
            rw [this] at h1
            exact h1.elim
      | lst xs => exact hL (its := (xs, [])) rfl (.inr ⟨xs, rfl, rfl⟩)
      | tup xs =>
        refine (pi_tup (tg := tg) he).run pins s σ H R I (tR.known Rr q h fun ρ1 H1 v R1 h1 => ?_)
        obtain ⟨_, a, vs, rfl, s1, _⟩ := R1.tupAt R1.head (xs := xs) rfl
        have h1 : resW g W (.ok (xs, []) M0) ε T σ _ := h1
        exact ⟨a, rfl, ⟨vs, hK ▸ s1⟩, h1.ok R1.tail _ _ (fun _ z => List.mem_cons_of_mem _ z) R1 (itt_rel hK List.mem_cons_self)⟩
      | str z =>
        refine (pi_str (tg := tg) he).run pins s σ H R I (tR.known Rr q h fun ρ1 H1 v R1 h1 => ?_)
        obtain ⟨rfl, _⟩ := R1.head.str
        have h1 : resW g W (.ok (z.cps.toList.map fun c => PV.str ⟨#[c]⟩, []) M0) ε T σ _ := h1
        exact ⟨z, rfl, h1.ok R1.tail _ _ (fun _ z => List.mem_cons_of_mem _ z) R1 its_rel⟩
      | dic kvs =>
        refine (pi_keys (tg := tg) (pe_keep he)).run pins s σ H R I (tR.known Rr q h fun ρ1 H1 v R1 h1 => ?_)
        have hv := R1.head
        unfold RV at hv
        obtain ⟨_, a, _, rfl, _⟩ := hv
        have h1 : resW g W (match keySrc kvs with
          | some it => .ok it M0
          | none => .stuck) ε T σ _ := h1
        unfold keySrc at h1
        split at h1
        · rename_i hf
          by_cases hf2 : (kvs.all fun kv => keyFits kv.1) = true
          · rw [if_pos hf2] at hf
            cases hf
            refine keep_run (Q := fun x H1 => ∃ d o, x = V.ref d ∧ ((∃ kvs, H1 d = some (.frz o (.dK kvs)) ∧ R (Itk d o kvs) H1) ∨ ∃ kvs, H1 d = some (.frz o (.dT kvs)) ∧ R (Itkt d o kvs) H1)) R1 fun z kws H' hd hl R2 => ⟨a, z, rfl, .inl ⟨kws, hd, h1.ok R2.tail.tail _ _ (fun _ z => List.mem_cons_of_mem _ (List.mem_cons_of_mem _ z)) R2 (itk_rel hf2 List.mem_cons_self (List.mem_cons_of_mem _ List.mem_cons_self))⟩⟩
          · rw [if_neg hf2] at hf
            cases hf
        · exact h1.elim
      | _ => exact (pi_list (tg := tg) he).run pins s σ H R I (tR.known Rr q h fun ρ1 H1 v R1 h1 => h1.elim)
    | err x M1 => exact (pi_list (tg := tg) he).run pins s σ H R I (tR.none Rr (fun p M2 z => by rw [q] at z; cases z) h)
    | stuck => rw [q] at h; exact h.elim⟩
variable {a b : Expr} {ca cb : CE}
theorem si_rng1 {m : Bool} (hg : Gl X "range") (hm : X.mg "range" = none) (ha : SE g W C X a ca) (hs : starEach [a] X.env = [(false, eval a X.env)]) (hs2 : starEach [a] X.env = (false, eval a X.env) :: starEach [] X.env) : SI g W C X tg (.Call (.Name "range" p) [a] [] pos) (.rng1 ca) :=
  ⟨fun pins s σ H R I ⟨ρ, M, ε, T, Rr, h⟩ => (pi_range1 (tg := tg) (p := p) (pos := pos) hg hm (pa_cons ha pa_nil hs2) hs).run pins s σ H R I (tR.of Rr h fun q ρ1 M1 H1 v R1 h1 => by
    split at h1
    · rename_i n
      split at h1
      · rename_i c
        rw [Bool.and_eq_true] at c
        cases R1.head.int
        refine ⟨n, rfl, of_decide_eq_true c.1, of_decide_eq_true c.2, h1.ok R1.tail _ _ (fun _ z => List.mem_cons_of_mem _ z) R1 ?_⟩
        have e : ((List.range n.toNat).map fun (i : Nat) => PV.int (i : Int)) = (List.range n.toNat).map fun (i : Nat) => PV.int (0 + (i : Int)) := by simp
        rw [e]
        exact itr_rel
      · exact h1.elim
    · exact h1.elim)⟩
theorem si_rng2 (hg : Gl X "range") (hm : X.mg "range" = none) (ha : SE g W C X a ca) (hb : SE g W C X b cb) (hs : starEach [a, b] X.env = [(false, eval a X.env), (false, eval b X.env)]) (hs2 : starEach [b] X.env = [(false, eval b X.env)])
    (hs3 : starEach [a, b] X.env = (false, eval a X.env) :: starEach [b] X.env) (hs4 : starEach [b] X.env = (false, eval b X.env) :: starEach [] X.env) : SI g W C X tg (.Call (.Name "range" p) [a, b] [] pos) (.rng2 ca cb) :=
  ⟨fun pins s σ H R I ⟨ρ, M, ε, T, Rr, h⟩ => (pi_range2 (tg := tg) (p := p) (pos := pos) hg hm (pa_cons ha (pa_cons hb pa_nil hs4) hs3) hs hs2).run pins s σ H R I (tR.of Rr h fun q ρ1 M1 H1 v R1 h1 =>
    tR.of R1 (h1.more fun q hq => List.mem_cons_of_mem _ hq) fun q2 ρ2 M2 H2 u R2 h2 => by
      split at h2
      · rename_i l n
        split at h2
        · rename_i c
          rw [Bool.and_eq_true, Bool.and_eq_true, Bool.and_eq_true] at c
          cases R2.head.int
          cases R2.tail.head.int
          exact ⟨l, n, rfl, ⟨of_decide_eq_true c.1.1.1, of_decide_eq_true c.1.1.2, of_decide_eq_true c.1.2, of_decide_eq_true c.2⟩, h2.ok R2.tail _ _ (fun _ z => List.mem_cons_of_mem _ (List.mem_cons_of_mem _ z)) R2 itr_rel⟩
        · exact h2.elim
      · exact h2.elim)⟩
/-! enumerate, zip: of lists -/
theorem listSrc_rd {M : Mem} {q : PV} {its : Items} (e : listSrc M q = some its) : rd M q = .lst its.1 ∧ ((∃ i xs, q = .ref i ∧ its = (xs, [(i, xs)])) ∨ ∃ xs, q = .lst xs ∧ its = (xs, [])) := by
  cases q with
  | ref i =>
    have es : (match M[i]? with
      | some (.lst ys) => some (ys, [(i, ys)])
      | _ => none) = some its := e
    split at es
    · rename_i ys e1
      cases es
      refine ⟨?_, .inl ⟨i, ys, rfl, rfl⟩⟩
      show (match M[i]? with
        | some (.lst xs) => PV.lst xs
        | some (.dic kvs) => .dic kvs
        | some (.ins c fs) => .ins c fs
        | _ => .ref i) = .lst ys
      rw [e1]
    · cases es
  | lst xs =>
    have es : some (xs, []) = some its := e
    cases es
    exact ⟨rfl, .inr ⟨xs, rfl, rfl⟩⟩
  | _ => cases e
/-- the list behind a source, at a later state -/
theorem src_list {q : PV} {a : Addr} {its : Items} {ρ : List Addr} {M : Mem} {H : Hp} {ε : WT.Env} {σ : SS} (hs : (∃ i xs, q = .ref i ∧ its = (xs, [(i, xs)])) ∨ ∃ xs, q = .lst xs ∧ its = (xs, [])) (hm : (q, V.ref a) ∈ T) (R : Rl g ρ M H ε T σ) (st : still its.2 M = true) :
    ∃ vs, LQ g.K H a vs ∧ RVs g ρ M H its.1 vs := by
  have hq := R.tmp _ hm
  rcases hs with ⟨i, xs, rfl, rfl⟩ | ⟨xs, rfl, rfl⟩
  · have hq : RV g ρ M H (.ref i) (.ref a) := hq
    unfold RV at hq
    obtain ⟨a', ea, hi⟩ := hq
    cases ea
    have st : ((match M[i]? with
      | some (.lst ys) => PV.beqs ys xs
      | _ => false) && true) = true := st
    rw [Bool.and_true] at st
    split at st
    · rename_i ys e1
      obtain ⟨_, vs, h1, h2⟩ := R.cel i a _ hi e1
      rw [PV.beqs_eq st] at h2
      exact ⟨vs, .inl (.inl h1), h2⟩
    · cases st
  · have hq : RV g ρ M H (.lst xs) (.ref a) := hq
    unfold RV at hq
    obtain ⟨_, a', vs, ea, h1, h2⟩ := hq
    cases ea
    exact ⟨vs, h1.q, h2⟩
theorem enumFrom_get : ∀ {xs : List PV} {n : Int} {i : Nat} {p : PV}, (enumFrom n xs)[i]? = some p → ∃ x, xs[i]? = some x ∧ p = .tup [.int (n + (i : Int)), x]
  | [], _, _, _, h => by simp [enumFrom] at h
  | x :: r, n, 0, p, h => by
    have h : some (PV.tup [.int n, x]) = some p := h
    cases h
    exact ⟨x, rfl, by simp⟩
  | x :: r, n, i + 1, p, h => by
    have h : (enumFrom (n + 1) r)[i]? = some p := h
    obtain ⟨y, h1, h2⟩ := enumFrom_get h
    refine ⟨y, h1, ?_⟩
    rw [h2]
    have : n + 1 + (i : Int) = n + ((i + 1 : Nat) : Int) := by omega
    rw [this]
theorem enumFrom_len : ∀ {xs : List PV} {n : Int}, (enumFrom n xs).length = xs.length
  | [], _ => rfl
  | x :: r, n => by show (enumFrom (n + 1) r).length + 1 = r.length + 1; rw [enumFrom_len]
/-- a pair that is laid -/
theorem pair_new {ρ : List Addr} {M : Mem} {H : Hp} {ε : WT.Env} {σ : SS} {q : Addr} {p1 p2 : PV} {v1 v2 : V} (R : Rl g ρ M H ε T σ) (hq : H q = none) (h1 : RV g ρ M H p1 v1) (h2 : RV g ρ M H p2 v2) : Rl g ρ M (upd H q (.tup [v1, v2])) ε ((.tup [p1, p2], .ref q) :: T) σ := by
  refine (R.alloc hq).push ?_
  unfold RV
  exact ⟨line_le (by show 2 ≤ 1000; omega), q, _, rfl, .of upd_same, .cons (h1.later R.cells (Lat.alloc hq)) (.one (h2.later R.cells (Lat.alloc hq)))⟩
theorem ite_rel (hK : K = g.K) {q : PV} {a : Addr} {its : Items} (hm : (q, V.ref a) ∈ T) (hs : (∃ i xs, q = .ref i ∧ its = (xs, [(i, xs)])) ∨ ∃ xs, q = .lst xs ∧ its = (xs, [])) : ItRel g T (enumFrom 0 its.1, its.2) (Ite K a) := by
  refine ⟨fun i p ρ M H ε σ R st e1 => ?_, fun ρ M H ε σ R st => ?_⟩
  · obtain ⟨vs, h1, h2⟩ := src_list hs hm R st
    obtain ⟨y, e2, rfl⟩ := enumFrom_get e1
    obtain ⟨v, e3, rv⟩ := h2.get e2
    refine ⟨⟨vs, v, hK ▸ h1.sq, e3⟩, fun x H' ⟨t, x', ex, ht, eh, hx⟩ => ?_⟩
    subst ex eh
    have e4 := hx vs (hK ▸ h1.sq)
    rw [e3] at e4
    cases e4
    have e5 : (0 : Int) + (i : Int) = (i : Int) := by omega
    rw [e5]
    exact pair_new R ht (.ofInt _) rv
  · obtain ⟨vs, h1, h2⟩ := src_list hs hm R st
    exact ⟨vs, hK ▸ h1.sq, by show vs.length ≤ (enumFrom 0 its.1).length; rw [enumFrom_len, h2.length]; exact Nat.le_refl _⟩
theorem si_enum (hK : X.K = g.K) {elts : List Expr} {kk : Nat} (hg : Gl X "enumerate") (hm : X.mg "enumerate" = none) (ha : SE g W C X a ca) (hs : starEach [a] X.env = [(false, eval a X.env)]) (hs2 : starEach [a] X.env = (false, eval a X.env) :: starEach [] X.env) : SI g W C X (.Tuple elts kk tpos) (.Call (.Name "enumerate" p) [a] [] pos) (.enm ca) :=
  ⟨fun pins s σ H R I ⟨ρ, M, ε, T, Rr, h⟩ => (pi_enum (p := p) (pos := pos) (tpos := tpos) (elts := elts) (kk := kk) hg hm (pa_cons ha pa_nil hs2) hs).run pins s σ H R I (tR.of Rr h fun q ρ1 M1 H1 v R1 h1 => by
    split at h1
    · rename_i its e1
      obtain ⟨k1, k2⟩ := listSrc_rd e1
      obtain ⟨_, a', vs, rfl, s1, _⟩ := R1.listAt R1.head k1
      exact ⟨a', vs, rfl, hK ▸ s1.sq, h1.ok R1.tail _ _ (fun _ z => List.mem_cons_of_mem _ z) R1 (ite_rel hK List.mem_cons_self k2)⟩
    · exact h1.elim)⟩
theorem zipPV_get : ∀ {xs ys : List PV} {i : Nat} {p : PV}, (zipPV xs ys)[i]? = some p → ∃ x y, xs[i]? = some x ∧ ys[i]? = some y ∧ p = .tup [x, y]
  | [], ys, i, p, h => by simp [zipPV] at h
  | x :: r, [], i, p, h => by simp [zipPV] at h
  | x :: r, y :: s, 0, p, h => by
    have h : some (PV.tup [x, y]) = some p := h
    cases h
    exact ⟨x, y, rfl, rfl, rfl⟩
  | x :: r, y :: s, i + 1, p, h => by
    obtain ⟨x', y', h1, h2, h3⟩ := zipPV_get (xs := r) (ys := s) (i := i) h
    exact ⟨x', y', h1, h2, h3⟩
theorem zipPV_len : ∀ {xs ys : List PV}, xs.length ≤ (zipPV xs ys).length ∨ ys.length ≤ (zipPV xs ys).length
  | [], _ => .inl (Nat.zero_le _)
  | _ :: _, [] => .inr (Nat.zero_le _)
  | x :: r, y :: s => (zipPV_len (xs := r) (ys := s)).elim (fun h => .inl (Nat.succ_le_succ h)) fun h => .inr (Nat.succ_le_succ h)
theorem still_app {l1 l2 : List (Nat × List PV)} {M : Mem} (h : still (l1 ++ l2) M = true) : still l1 M = true ∧ still l2 M = true := by
  unfold still at h ⊢
  rw [List.all_append, Bool.and_eq_true] at h
  exact h
theorem si_zip (hK : X.K = g.K) {elts : List Expr} {kk : Nat} (hg : Gl X "zip") (hm : X.mg "zip" = none) (ha : SE g W C X a ca) (hb : SE g W C X b cb) (hs3 : starEach [a, b] X.env = (false, eval a X.env) :: starEach [b] X.env) (hs4 : starEach [b] X.env = (false, eval b X.env) :: starEach [] X.env)
    (hpl : (backTo pos (starEach [b] X.env)).any (·.1) = false) : SI g W C X (.Tuple elts kk tpos) (.Call (.Name "zip" p) [a, b] [] pos) (.zip ca cb) :=
  ⟨fun pins s σ H R I ⟨ρ, M, ε, T, Rr, h⟩ => (pi_zip (p := p) (pos := pos) (tpos := tpos) (elts := elts) (kk := kk) hg hm (pa_cons ha (pa_cons hb pa_nil hs4) hs3) hs3 hpl).run pins s σ H R I (tR.of Rr h fun q ρ1 M1 H1 v R1 h1 =>
    tR.of R1 (h1.more fun q hq => List.mem_cons_of_mem _ hq) fun q2 ρ2 M2 H2 u R2 h2 => by
      split at h2
      · rename_i i1 i2 e1 e2
        obtain ⟨k1, k2⟩ := listSrc_rd e1
        obtain ⟨k3, k4⟩ := listSrc_rd e2
        obtain ⟨_, a1, vs, rfl, s1, _⟩ := R2.listAt R2.tail.head k1
        obtain ⟨_, a2, us, rfl, s2, _⟩ := R2.listAt R2.head k3
        refine ⟨a1, a2, vs, us, rfl, hK ▸ s1.sq, hK ▸ s2.sq, h2.ok R2.tail _ _ (fun _ z => List.mem_cons_of_mem _ (List.mem_cons_of_mem _ z)) R2 ⟨fun i p ρ M H ε σ R st e1 => ?_, fun ρ M H ε σ R st => ?_⟩⟩
        · obtain ⟨st1, st2⟩ := still_app st
          obtain ⟨xs, x1, x2⟩ := src_list k2 (List.mem_cons_of_mem _ List.mem_cons_self) R st1
          obtain ⟨ys, y1, y2⟩ := src_list k4 List.mem_cons_self R st2
          obtain ⟨x, y, g1, g2, rfl⟩ := zipPV_get e1
          obtain ⟨v1, g3, r1⟩ := x2.get g1
          obtain ⟨v2, g4, r2⟩ := y2.get g2
          refine ⟨⟨xs, ys, v1, v2, hK ▸ x1.sq, hK ▸ y1.sq, g3, g4⟩, fun z H' ⟨t, x', y', ez, ht, eh, hx, hy⟩ => ?_⟩
          subst ez eh
          have e4 := hx xs (hK ▸ x1.sq)
          have e5 := hy ys (hK ▸ y1.sq)
          rw [g3] at e4
          rw [g4] at e5
          cases e4
          cases e5
          exact pair_new R ht r1 r2
        · obtain ⟨st1, st2⟩ := still_app st
          obtain ⟨xs, x1, x2⟩ := src_list k2 (List.mem_cons_of_mem _ List.mem_cons_self) R st1
          obtain ⟨ys, y1, y2⟩ := src_list k4 List.mem_cons_self R st2
          exact ⟨xs, ys, hK ▸ x1.sq, hK ▸ y1.sq, by rw [← x2.length, ← y2.length]; exact zipPV_len⟩
      · exact h2.elim)⟩
end
end WT
set_option maxRecDepth 100000
set_option autoImplicit false
/-! enumerate over lists and tuples. -/
namespace WT
open PySem PySem.Spec PyProof.Rows L2

section
set_option maxHeartbeats 1000000 in
theorem enum_new1 {v : Value} {o : Obj} {Hb : Heap → Prop} (B : Begins v o Hb) : Meets (Builtin.«enumerate.__new__» ⟨[.type "enumerate", v], []⟩) (fun _ R s => Hb s.heap ∧
      R (.ok (.ret (.ref (s.heap.push o).objs.size))) { s with heap := (s.heap.push o).push { cls := .type "enumerate", data := .fields #[.none, .bool false, .ref s.heap.objs.size, rawInt 0, .none, .none] } }) :=
  .of_wp fun pg w A R s hh => by
    obtain ⟨hp, gs, ds, tk, os⟩ := s; obtain ⟨h1, hh⟩ := hh
    have hsub := sub_enumerate
    have itq : ∀ {A' : Around} {E : Value → Shared → Prop} {Q : Value → Shared → Prop}, Q (.ref hp.objs.size) ⟨hp.push o, gs, ds, tk, os⟩ → wpAny (model pg w) A' (pyIter v) Q E ⟨hp, gs, ds, tk, os⟩ := fun q => B.iter pg w _ _ ⟨hp, gs, ds, tk, os⟩ _ h1 q
    wp_walk using itq
    refine wpAny_stack_any fun st => wpAny_pure ?_
    split
    · rename_i c _ _ _ _ _
      cases (c == Value.type "enumerate")
      · wp_walk using itq
        exact ⟨_, rfl, hh⟩
      · wp_walk using itq
        exact ⟨_, rfl, hh⟩
    · wp_walk using itq
      exact ⟨_, rfl, hh⟩
variable {prog : Program} {w : World} {A : Around} {E : Value → Shared → Prop} {s : Shared}
theorem enum_tup {t : Addr} {items : Array Value} {Q : Value → Shared → Prop} (ht : s.heap.IsTuple t items)
    (h : ∀ h', IsEnum h' (s.heap.objs.size + 1) s.heap.objs.size 0 .none → h'.IsTupleIter s.heap.objs.size t 0 → h'.objs.size = s.heap.objs.size + 2 → (∀ b o, s.heap.get? b = some o → h'.get? b = some o) → Q (.ref (s.heap.objs.size + 1)) { s with heap := h' }) :
    wpAny (model prog w) A (PySem.call (.type "enumerate") [.ref t]) Q E s := by
  refine callType_new F.called_enumerate (by decide) (F.typeCall_enumerate_1 _) (F.newCall_enumerate_1 _) (fun obj => F.args_object_init_2 obj _) F.entry_enumerate_new (enum_new1 (begins_tuple t items)) ⟨ht, ?_⟩
  have hz : (s.heap.push { cls := .type "tuple_iterator", data := .fields #[.ref t, .int 0 0] }).objs.size = s.heap.objs.size + 1 := Heap.size_push ..
  show _ ∧ _
  rw [hz]
  have he : IsEnum ((s.heap.push { cls := .type "tuple_iterator", data := .fields #[.ref t, .int 0 0] }).push { cls := .type "enumerate", data := .fields #[.none, .bool false, .ref s.heap.objs.size, rawInt 0, .none, .none] }) (s.heap.objs.size + 1) s.heap.objs.size 0 .none := by
    have z := Heap.get?_push_size (s.heap.push { cls := .type "tuple_iterator", data := .fields #[.ref t, .int 0 0] }) (o := { cls := .type "enumerate", data := .fields #[.none, .bool false, .ref s.heap.objs.size, rawInt 0, .none, .none] }) rfl
    rw [hz] at z
    exact z
  exact ⟨⟨_, he, rfl⟩, h _ he ⟨_, Heap.get?_push_of_some _ (Heap.get?_push_size _ rfl), rfl, rfl⟩ (by rw [Heap.size_push, hz]) fun b o x => Heap.get?_push_of_some _ (Heap.get?_push_of_some _ x)⟩
end
/-- the tuple at a, each item in a new pair -/
def IteT (K : PySem.W.Frag) (a : Addr) : It :=
  ⟨fun i H => ∃ (xs : List V) (x : V), SqT K H a xs ∧ xs[i]? = some x, fun i H v H' => ∃ T x, v = .ref T ∧ H T = none ∧ H' = upd H T (.tup [.int (i : Nat), x]) ∧ ∀ xs, SqT K H a xs → xs[i]? = some x, fun i H => ∃ xs : List V, SqT K H a xs ∧ xs.length = i⟩
theorem turn_enumT {P : Program} {w : World} {K : PySem.W.Frag} {elts : List Expr} {kk : Nat} {tpos : Pos} (a e it : Addr) (hae : a ≠ e) (hai : a ≠ it) :
    Turn P w K (.Tuple elts kk tpos) (IteT K a) [e, it] e (fun i h => (∃ old, IsEnum h e it ((i : Nat) : Int) old) ∧ h.IsTupleIter it a i ∧ e ≠ it) where
  mem := by simp
  obj := fun i h st b hb => by
    obtain ⟨⟨old, he⟩, ⟨o, ho, hc, hd⟩, _⟩ := st
    rcases (show b = e ∨ b = it by simpa using hb) with z | z
    · rw [z]; exact ⟨_, he, fun v q => nomatch q⟩
    · rw [z]; exact ⟨o, ho, fun v q => by rw [hd] at q; cases q⟩
  keep := fun i h h' st k => let ⟨⟨old, he⟩, hi, hne⟩ := st; ⟨⟨old, k e (by simp) _ he⟩, hi.at fun o q => k it (by simp) o q, hne⟩
  item := by
    intro X hP hw hK hc i pins s σ H E I hf st hg
    subst hP hw hK
    obtain ⟨⟨old, he⟩, hit, hne⟩ := st
    obtain ⟨xs, x, hq, hx⟩ := hg
    obtain ⟨its, rv, p, hz⟩ := I.tuple hq
    obtain ⟨u, hu, ru⟩ := rv.get hx
    have hel : e < s.heap.objs.size := Heap.lt_size he
    have hil : it < s.heap.objs.size := by obtain ⟨_, q, _⟩ := hit; exact Heap.lt_size q
    have p : s.heap.IsTuple a its.toArray := p
    have hlt : i < its.toArray.size := by
      have := (List.getElem?_eq_some_iff.mp hu).1
      simpa using this
    refine wpAny_pyNext_enum_itemD (Draws.tuple (A := X.A.in1) (I.ok.hd hc) it a hai its.toArray) he ⟨hit, p⟩ hlt hne (by
      intro hm
      rcases (show e = it ∨ e = a by simpa using hm) with z | z
      · exact hne z
      · exact hae z.symm) fun y h' tk hy ho hst hT hsz hk => ?_
    have hy : y = u := by
      have hu2 : its.toArray[i]? = some u := by simpa using hu
      rw [hu2] at hy
      exact (Option.some.inj hy).symm
    subst hy
    obtain ⟨hit', _⟩ := hst
    refine ⟨_, rfl, wpAny_letOwnedTupleGo_enum (s := { s with heap := h', toks := tk + 1 }) ho fun h'' he' sb => ?_⟩
    have hT2 : h''.get? s.heap.objs.size = some { cls := .type "tuple", data := .seq #[.int i tk, y] } := (sb.2 _ (Nat.ne_of_gt hel)).trans hT
    have new : ObjOk X.prog X.w (upd H s.heap.objs.size (.tup [.int (i : Nat), x])) h'' s.heap.objs.size (.tup [.int (i : Nat), x]) :=
      ⟨by show 2 ≤ sizeLine; decide, [.int i tk, y], .cons ⟨_, rfl⟩ (.cons ru .nil), ⟨_, hT2, rfl, _, rfl⟩⟩
    have I1 : Inv X pins σ (upd H s.heap.objs.size (.tup [.int (i : Nat), x])) { s with heap := h'', toks := tk + 1 } :=
      I.turnedNew (ch := [e, it]) (fun b ob hb q => (sb.2 b (fun z => hb (by simp [z]))).trans (hk b ob (fun z => hb (by simp [z])) (fun z => hb (by simp [z])) q)) hf (Nat.le_refl _) new
    refine ⟨.ref s.heap.objs.size, _, I1, rfl, ⟨_, x, rfl, I.hok.fresh (Nat.le_refl _), rfl, fun ys hy => by rw [I.tuple_inj hy hq]; exact hx⟩, ⟨⟨y, ?_⟩, hit'.at fun o q => (sb.2 it (Ne.symm hne)).trans q, hne⟩, fun b hb => ?_⟩
    · rw [show ((i + 1 : Nat) : Int) = (i : Int) + 1 by omega]
      exact he'
    · have hb' : b < s.heap.objs.size := by
        rcases (show b = e ∨ b = it by simpa using hb) with z | z
        · rw [z]; exact hel
        · rw [z]; exact hil
      rw [upd_ne (Nat.ne_of_lt hb')]
      exact (hf b hb).1
  done := by
    intro X hP hw hK hc i pins s σ H E I hf st hg
    subst hP hw hK
    obtain ⟨⟨old, he⟩, hit, hne⟩ := st
    obtain ⟨xs, hq, hx⟩ := hg
    obtain ⟨its, rv, p, hz⟩ := I.tuple hq
    obtain ⟨f0, f1, f2, f3, f4, f5⟩ := hf it (by simp)
    have p : s.heap.IsTuple a its.toArray := p
    have hl : i = its.toArray.size := by rw [← hx, rv.length]; simp
    subst hl
    exact wpAny_pyNext_enum_endD (Draws.tuple (A := X.A.in1) (I.ok.hd hc) it a hai its.toArray) he ⟨hit, p⟩ fun h' eb => ⟨rfl, I.turned (t' := s.toks) (fun b o hb q => eb b o hb q) f0 f1 f3 f4 f5⟩
  self := fun A i s Q E st h => let ⟨⟨_, he⟩, _⟩ := st; wpAny_pyIter_enum he h
def iEnm (K : PySem.W.Frag) (ta : TA) : TI := fun σ H R => ta σ H fun vs H1 => ∃ a, vs = [.ref a] ∧ ((∃ xs, SqL K H1 a xs ∧ R (Ite K a) H1) ∨ ∃ xs, SqT K H1 a xs ∧ R (IteT K a) H1)
theorem pi_enm {X : Cx} {e : Expr} {ta : TA} {p pos tpos : Pos} {elts : List Expr} {kk : Nat} (hg : Gl X "enumerate") (hm : X.mg "enumerate" = none) (ha : PA X [e] ta) (hs : starEach [e] X.env = [(false, eval e X.env)]) :
    PI X (.Tuple elts kk tpos) (.Call (.Name "enumerate" p) [e] [] pos) (iEnm X.K ta) := by
  refine ⟨fun pins s σ H R I h => ?_⟩
  refine Call_ (ld_blt I hg hm boot_enumerate (PyProof.Rows.callWith_type1 (thn (ha.run pos pins s σ H _ I h) fun us s1 ⟨vs, H1, I1, r1, q1⟩ => ?_) hs rfl))
  obtain ⟨a, rfl, q⟩ := q1
  obtain ⟨u, rfl, ru⟩ := vals1 r1
  cases (show u = Value.ref a from ru)
  have two : ∀ b, b ∈ [s1.heap.objs.size + 1, s1.heap.objs.size] → FpOk X pins H1 b := fun b hb => by
    have hle : s1.heap.objs.size ≤ b := by
      rcases (show b = s1.heap.objs.size + 1 ∨ b = s1.heap.objs.size by simpa using hb) with z | z <;> omega
    exact I1.fpOk hle (I1.hok.fresh hle)
  rcases q with ⟨xs, hq, q⟩ | ⟨xs, hq, q⟩
  · obtain ⟨its, rv, p', hz⟩ := I1.list hq
    refine call_enumerate_list p'.isList fun h' he hit hsz hk => wpAny_pyIter_enum he ?_
    have I2 : Inv X pins σ H1 { s1 with heap := h' } := I1.kept (t' := s1.toks) hk
    exact ⟨s1.heap.objs.size + 1, [s1.heap.objs.size + 1, s1.heap.objs.size], _, _, H1, rfl, I2, turn_enum a (s1.heap.objs.size + 1) s1.heap.objs.size, ⟨⟨.none, he⟩, hit, Nat.succ_ne_self _⟩, two, q⟩
  · obtain ⟨its, rv, p', hz⟩ := I1.tuple hq
    have p' : s1.heap.IsTuple a its.toArray := p'
    have hlt : a < s1.heap.objs.size := by obtain ⟨o, e, _⟩ := id p'; exact Heap.lt_size e
    refine enum_tup p' fun h' he hit hsz hk => wpAny_pyIter_enum he ?_
    have I2 : Inv X pins σ H1 { s1 with heap := h' } := I1.kept (t' := s1.toks) hk
    exact ⟨s1.heap.objs.size + 1, [s1.heap.objs.size + 1, s1.heap.objs.size], _, _, H1, rfl, I2, turn_enumT a (s1.heap.objs.size + 1) s1.heap.objs.size (Nat.ne_of_lt (Nat.lt_succ_of_lt hlt)) (Nat.ne_of_lt hlt), ⟨⟨.none, he⟩, hit, Nat.succ_ne_self _⟩, two, q⟩
section
variable {g : Gx} {W : WX} {C : Ctx} {X : Cx} {T : List (PV × V)} {K : PySem.W.Frag} {a : Expr} {p pos tpos : Pos} {ca : CE}
theorem itet_rel (hK : K = g.K) {xs : List PV} {a : Addr} (hm : (PV.tup xs, V.ref a) ∈ T) : ItRel g T (enumFrom 0 xs, []) (IteT K a) := by
  refine ⟨fun i p ρ M H ε σ R st e1 => ?_, fun ρ M H ε σ R st => ?_⟩
  · obtain ⟨_, a', vs, ea, h1, h2⟩ := (R.tmp _ hm).tupAt
    cases ea
    obtain ⟨y, e2, rfl⟩ := enumFrom_get e1
    obtain ⟨v, e3, rv⟩ := h2.get e2
    refine ⟨⟨vs, v, hK ▸ h1, e3⟩, fun x H' ⟨t, x', ex, ht, eh, hx⟩ => ?_⟩
    subst ex eh
    have e4 := hx vs (hK ▸ h1)
    rw [e3] at e4
    cases e4
    rw [show (0 : Int) + (i : Int) = (i : Int) by omega]
    exact pair_new R ht (.ofInt _) rv
  · obtain ⟨_, a', vs, ea, h1, h2⟩ := (R.tmp _ hm).tupAt
    cases ea
    exact ⟨vs, hK ▸ h1, by rw [enumFrom_len, h2.length]⟩
theorem si_enm (hK : X.K = g.K) {elts : List Expr} {kk : Nat} (hg : Gl X "enumerate") (hm : X.mg "enumerate" = none) (ha : SE g W C X a ca) (hs : starEach [a] X.env = [(false, eval a X.env)]) (hs2 : starEach [a] X.env = (false, eval a X.env) :: starEach [] X.env) : SI g W C X (.Tuple elts kk tpos) (.Call (.Name "enumerate" p) [a] [] pos) (.enm2 ca) :=
  ⟨fun pins s σ H R I ⟨ρ, M, ε, T, Rr, h⟩ => (pi_enm (p := p) (pos := pos) (tpos := tpos) (elts := elts) (kk := kk) hg hm (pa_cons ha pa_nil hs2) hs).run pins s σ H R I (tR.of Rr h fun q ρ1 M1 H1 v R1 h1 => by
    split at h1
    · rename_i its e1
      unfold enSrc at e1
      split at e1
      · rename_i xs
        cases e1
        obtain ⟨_, a', vs, rfl, s1, _⟩ := R1.head.tupAt
        exact ⟨a', rfl, .inr ⟨vs, hK ▸ s1, h1.ok R1.tail _ _ (fun _ z => List.mem_cons_of_mem _ z) R1 (itet_rel hK List.mem_cons_self)⟩⟩
      · obtain ⟨k1, k2⟩ := listSrc_rd e1
        obtain ⟨_, a', vs, rfl, s1, _⟩ := R1.listAt R1.head k1
        exact ⟨a', rfl, .inl ⟨vs, hK ▸ s1.sq, h1.ok R1.tail _ _ (fun _ z => List.mem_cons_of_mem _ z) R1 (ite_rel hK List.mem_cons_self k2)⟩⟩
    · exact h1.elim)⟩
end
end WT
set_option maxRecDepth 100000
set_option autoImplicit false
/-! Statements, 2: loops. -/
namespace WT
open PySem PySem.Spec PyProof.Rows L2

section
variable {g : Gx} {W : WX} {C : Ctx} {X : Cx} {e o : Expr} {x : Str} {p pos pos' : Pos} {tg : Expr} {body : List Stmt} {cb : List CS}
/-- one turn of a loop -/
theorem turn_of {D : Ends} {T : List (PV × V)} {o : Out} {k : WT.Env → Mem → Out} {N : L2.St → Hp → Prop}
    (h : outW g W (match o with
      | .nx ε2 M2 => k ε2 M2
      | .ct ε2 M2 => k ε2 M2
      | .bk ε2 M2 => .nx ε2 M2
      | o => o) T D)
    (hN : ∀ ρ M H ε σ, Rl g ρ M H ε T σ → outW g W (k ε M) T D → N σ H) : outW g W o T { D with nx := N, ct := N, bk := D.nx } := by
  cases o with
  | nx ε M => exact fun ρ H σ R => hN ρ M H ε σ R h
  | ct ε M => exact fun ρ H σ R => hN ρ M H ε σ R h
  | bk ε M => exact h
  | rt v M => exact h
  | er e ε M => exact h
  | stuck => exact h
theorem s_for {t : CT} {ci : CI} (hp : PassesOwn (model X.prog X.w) X.A X.env X.xe) (hc : X.calm = true) (hi : SI g W C X tg e ci) (hg : PG X tg (tG g t)) (hb : SSs g W C X body cb) (hs : ∀ x, foldedSetIterable e X.env x = pure x) : SS1 g W C X (.For tg e body [] pos) (.for_ t ci cb) :=
  ⟨fun pins s σ H D I ⟨ρ, M, ε, T, R, h⟩ => (ps_for (pos := pos) hp hc hi hg hb hs).run pins s σ H D I ⟨ρ, M, ε, T, R, (outW.res h σ).imp fun its ρ1 M1 H1 R1 h1 J T' hT R1' rel => by
    have h1 : outW g W (forLoop t (fun ε M => exs C cb ε M) its.2 its.1 ε M1) T D := h1
    have h1 : outW g W (forLoop t (fun ε M => exs C cb ε M) its.2 its.1 ε M1) T' D := h1.more hT
    refine ⟨fun i m σ H => ∃ ρ M ε, Rl g ρ M H ε T' σ ∧ i + m = its.1.length ∧ outW g W (forLoop t (fun ε M => exs C cb ε M) its.2 (its.1.drop i) ε M) T' D, ⟨its.1.length, ρ1, M1, ε, R1', by omega, h1⟩, fun i m σ2 H2 ⟨ρ2, M2, ε2, R2, him, h2⟩ => ?_⟩
    by_cases hi : i < its.1.length
    · have ed : its.1.drop i = its.1[i] :: its.1.drop (i + 1) := List.drop_eq_getElem_cons hi
      rw [ed] at h2
      have h2 : outW g W (match still its.2 M2, bindT t its.1[i] ε2 M2 with
        | true, some ε1 => (match exs C cb ε1 M2 with
          | .nx ε3 M3 => forLoop t (fun ε M => exs C cb ε M) its.2 (its.1.drop (i + 1)) ε3 M3
          | .ct ε3 M3 => forLoop t (fun ε M => exs C cb ε M) its.2 (its.1.drop (i + 1)) ε3 M3
          | .bk ε3 M3 => .nx ε3 M3
          | o => o)
        | _, _ => .stuck) T' D := h2
      split at h2
      · rename_i ε1 hst hbd
        obtain ⟨go, yl⟩ := rel.go i its.1[i] ρ2 M2 H2 ε2 σ2 R2 hst (List.getElem?_eq_getElem hi)
        refine .inr ⟨go, fun σ' H' => ∃ ρ M ε, Rl g ρ M H' ε T' σ' ∧ outW g W (forLoop t (fun ε M => exs C cb ε M) its.2 (its.1.drop (i + 1)) ε M) T' D, fun σ' H' ⟨ρ3, M3, ε3, R3, h3⟩ => ⟨m - 1, by omega, ρ3, M3, ε3, R3, by omega, h3⟩, fun x H' hy => ?_⟩
        have R3 := yl x H' hy
        refine ⟨ρ2, M2, ε2, _, its.1[i], ε1, R3, R3.head, hbd, fun σ' R4 _ => ⟨ρ2, M2, ε1, T', R4.tail, turn_of h2 fun ρ M H ε σ R h => ⟨ρ, M, ε, R, h⟩⟩⟩
      · exact h2.elim
    · have ed : its.1.drop i = [] := List.drop_eq_nil_of_le (by omega)
      rw [ed] at h2
      have h2 : outW g W (match still its.2 M2 with
        | true => .nx ε2 M2
        | false => .stuck) T' D := h2
      split at h2
      · rename_i hst
        refine .inl ⟨?_, h2 ρ2 H2 σ2 R2⟩
        have ei : i = its.1.length := by omega
        rw [ei]
        exact rel.stop ρ2 M2 H2 ε2 σ2 R2 hst
      · exact h2.elim⟩⟩
theorem s_whl {c : Expr} {cc : CE} (hp : PassesOwn (model X.prog X.w) X.A X.env X.xe) (hc : ST g W C X c cc) (hb : SSs g W C X body cb) : SS1 g W C X (.While c body [] pos) (.whl cc cb) :=
  ⟨fun pins s σ H D I ⟨ρ, M, ε, T, R, h⟩ => (ps_while (pos := pos) hp hc hb).run pins s σ H D I
    ⟨fun m σ H => ∃ ρ M ε, Rl g ρ M H ε T σ ∧ outW g W (whlLoop (fun ε M => (ev C cc ε M).test) (fun ε M => exs C cb ε M) m ε M) T D, ⟨C.w, ρ, M, ε, R, h⟩, fun m σ2 H2 ⟨ρ2, M2, ε2, R2, h2⟩ => by
      cases m with
      | zero => exact h2.elim
      | succ m =>
        have h2 : outW g W ((ev C cc ε2 M2).test.out ε2 fun b M => match b with
          | true => (match exs C cb ε2 M with
            | .nx ε3 M3 => whlLoop (fun ε M => (ev C cc ε M).test) (fun ε M => exs C cb ε M) m ε3 M3
            | .ct ε3 M3 => whlLoop (fun ε M => (ev C cc ε M).test) (fun ε M => exs C cb ε M) m ε3 M3
            | .bk ε3 M3 => .nx ε3 M3
            | o => o)
          | false => .nx ε2 M) T D := h2
        refine ⟨ρ2, M2, ε2, T, R2, (outW.res h2 σ2).imp fun k ρ3 M3 H3 R3 h3 => ?_⟩
        cases k with
        | true =>
          refine iteT ⟨fun σ' H' => ∃ ρ M ε, Rl g ρ M H' ε T σ' ∧ outW g W (whlLoop (fun ε M => (ev C cc ε M).test) (fun ε M => exs C cb ε M) m ε M) T D, fun σ' H' z => ⟨m, Nat.lt_succ_self m, z⟩, ρ3, M3, ε2, T, R3, turn_of h3 fun ρ M H ε σ R h => ⟨ρ, M, ε, R, h⟩⟩
        | false => exact iteF (h3 ρ3 H3 σ2 R3)⟩⟩
end
end WT
set_option maxRecDepth 100000
set_option autoImplicit false
/-! Statements, 3: stores, raise. -/
namespace WT
open PySem PySem.Spec PyProof.Rows L2

section
variable {g : Gx} {W : WX} {C : Ctx} {X : Cx} {e o : Expr} {p pos pos' : Pos}
theorem bind_out {α β : Type} (r : Res α) (f : α → Mem → Res β) (ε : WT.Env) (k : β → Mem → Out) : (r.bind f).out ε k = r.out ε fun a M => (f a M).out ε k := by cases r <;> rfl
/-! a, b = x, y: names -/
theorem s_par {i j : Nat} {x y : Str} {a b : Expr} {px py pt : Pos} {kt k2 : Nat} {pt2 : Pos} {cs : List CE} (hc : X.calm = true) (hN : X.N.Nodup) (hi : X.N[i]? = some x) (hj : X.N[j]? = some y) (hij : i ≠ j)
    (hx : X.env.scope.names.lookup x = some .local) (hy : X.env.scope.names.lookup y = some .local) (ha : SA g W C X [a, b] cs) (hl : cs.length = 2)
    (hw : swappedStores [.Tuple [.Name x px, .Name y py] kt pt] (.Tuple [a, b] k2 pt2) X.env = pure (some [x, y]))
    (hs : swapsWithSole [.Tuple [.Name x px, .Name y py] kt pt] (.Tuple [a, b] k2 pt2) pos.line X.env = pure false) :
    SS1 g W C X (.Assign [.Tuple [.Name x px, .Name y py] kt pt] (.Tuple [a, b] k2 pt2) pos) (.asg (.tup [.nm i, .nm j]) (.tup cs)) :=
  ⟨fun pins s σ H D I ⟨ρ, M, ε, T, R, h⟩ => (ps_par hc hN hi hj hij hx hy ha hw hs).run pins s σ H D I (by
    have h : outW g W (((evs C cs ε M).bind fun vs M => .ok (.tup vs) M).out ε fun v M => (match bindT (.tup [.nm i, .nm j]) v ε M with
      | some ε1 => .nx ε1 M
      | none => .stuck)) T D := h
    rw [bind_out] at h
    refine ⟨ρ, M, ε, T, R, ((outW.res h σ).also (B := fun ps _ => ps.length = cs.length) fun ps M e => evs_len e).imp fun ps ρ1 M1 H1 R1 ⟨hlen, h1⟩ vs rv => ?_⟩
    match ps, hlen, rv, h1 with
    | [q1, q2], _, rv, h1 =>
      obtain ⟨v, u, rfl, r1, r2⟩ := rv.two_inv
      have h1 : outW g W (.nx ((ε.set i (some q1)).set j (some q2)) M1) T D := h1
      exact ⟨v, u, rfl, h1 ρ1 H1 _ ((R1.set r1).set r2)⟩
    | [], hlen, _, _ => simp [hl] at hlen
    | [_], hlen, _, _ => simp [hl] at hlen
    | _ :: _ :: _ :: _, hlen, _, _ => simp [hl] at hlen)⟩
theorem s_par3 {i j l : Nat} {x y z : Str} {a b c : Expr} {px py pz pt : Pos} {kt k2 : Nat} {pt2 : Pos} {cs : List CE} (hc : X.calm = true) (hN : X.N.Nodup) (hi : X.N[i]? = some x) (hj : X.N[j]? = some y) (hk : X.N[l]? = some z) (hij : i ≠ j) (hil : i ≠ l) (hjl : j ≠ l)
    (hx : X.env.scope.names.lookup x = some .local) (hy : X.env.scope.names.lookup y = some .local) (hz : X.env.scope.names.lookup z = some .local) (ha : SA g W C X [a, b, c] cs) (hl : cs.length = 3)
    (hw : swappedStores [.Tuple [.Name x px, .Name y py, .Name z pz] kt pt] (.Tuple [a, b, c] k2 pt2) X.env = pure (some [x, y, z]))
    (hs : swapsWithSole [.Tuple [.Name x px, .Name y py, .Name z pz] kt pt] (.Tuple [a, b, c] k2 pt2) pos.line X.env = pure false) :
    SS1 g W C X (.Assign [.Tuple [.Name x px, .Name y py, .Name z pz] kt pt] (.Tuple [a, b, c] k2 pt2) pos) (.asg (.tup [.nm i, .nm j, .nm l]) (.tup cs)) :=
  ⟨fun pins s σ H D I ⟨ρ, M, ε, T, R, h⟩ => (ps_par3 hc hN hi hj hk hij hil hjl hx hy hz ha hw hs).run pins s σ H D I (by
    have h : outW g W (((evs C cs ε M).bind fun vs M => .ok (.tup vs) M).out ε fun v M => (match bindT (.tup [.nm i, .nm j, .nm l]) v ε M with
      | some ε1 => .nx ε1 M
      | none => .stuck)) T D := h
    rw [bind_out] at h
    refine ⟨ρ, M, ε, T, R, ((outW.res h σ).also (B := fun ps _ => ps.length = cs.length) fun ps M e => evs_len e).imp fun ps ρ1 M1 H1 R1 ⟨hlen, h1⟩ vs rv => ?_⟩
    match ps, hlen, rv, h1 with
    | [q1, q2, q3], _, rv, h1 =>
      unfold RVs at rv
      obtain ⟨v, s, rfl, r1, rv⟩ := rv
      obtain ⟨u, w, rfl, r2, r3⟩ := rv.two_inv
      have h1 : outW g W (.nx (((ε.set i (some q1)).set j (some q2)).set l (some q3)) M1) T D := h1
      exact ⟨v, u, w, rfl, h1 ρ1 H1 _ (((R1.set r1).set r2).set r3)⟩
    | [], hlen, _, _ => simp [hl] at hlen
    | [_], hlen, _, _ => simp [hl] at hlen
    | [_, _], hlen, _, _ => simp [hl] at hlen
    | _ :: _ :: _ :: _ :: _, hlen, _, _ => simp [hl] at hlen)⟩
/-! xs[i] = v, d[k] = v -/
theorem RVd.repl {ρ : List Addr} {M : Mem} {H : Hp} {k : Key} {p : PV} {v : V} (hv : RV g ρ M H p v) : ∀ {kvs : List (PV × PV)} {kws : List (Key × V)}, RVd g ρ M H kvs kws →
    RVd g ρ M H (kvs.map fun kv => match eqK kv.1 (kPV k) with
      | true => (kv.1, p)
      | false => kv) (kws.map fun kv => if kv.1 = k then (kv.1, v) else kv)
  | [], _, h => by unfold RVd at h; subst h; unfold RVd; rfl
  | (q, x) :: r, _, h => by
    unfold RVd at h
    obtain ⟨j, u, s, rfl, rfl, h1, h2⟩ := h
    have ih := RVd.repl (k := k) hv h2
    simp only [List.map_cons]
    have ek : eqK (kPV j) (kPV k) = decide (j = k) := eqK_iff j k
    by_cases hj : j = k
    · have e1 : eqK (kPV j) (kPV k) = true := by rw [ek]; exact decide_eq_true hj
      show RVd g ρ M H ((match eqK (kPV j) (kPV k) with | true => (kPV j, p) | false => (kPV j, x)) :: _) _
      rw [e1, if_pos hj]
      unfold RVd
      exact ⟨j, v, _, rfl, rfl, hv, ih⟩
    · have e1 : eqK (kPV j) (kPV k) = false := by rw [ek]; exact decide_eq_false hj
      show RVd g ρ M H ((match eqK (kPV j) (kPV k) with | true => (kPV j, p) | false => (kPV j, x)) :: _) _
      rw [e1, if_neg hj]
      unfold RVd
      exact ⟨j, u, _, rfl, rfl, h1, ih⟩
theorem RVd.snoc {ρ : List Addr} {M : Mem} {H : Hp} {k : Key} {p : PV} {v : V} (hv : RV g ρ M H p v) : ∀ {kvs : List (PV × PV)} {kws : List (Key × V)}, RVd g ρ M H kvs kws → RVd g ρ M H (kvs ++ [(kPV k, p)]) (kws ++ [(k, v)])
  | [], _, h => by
    unfold RVd at h
    subst h
    show RVd g ρ M H [(kPV k, p)] [(k, v)]
    unfold RVd
    exact ⟨k, v, [], rfl, rfl, hv, by unfold RVd; rfl⟩
  | (q, x) :: r, _, h => by
    unfold RVd at h
    obtain ⟨j, u, s, rfl, rfl, h1, h2⟩ := h
    show RVd g ρ M H ((kPV j, x) :: (r ++ [(kPV k, p)])) ((j, u) :: (s ++ [(k, v)]))
    unfold RVd
    exact ⟨j, u, _, rfl, rfl, h1, RVd.snoc hv h2⟩
theorem RVd.any {ρ : List Addr} {M : Mem} {H : Hp} {k : Key} : ∀ {kvs : List (PV × PV)} {kws : List (Key × V)}, RVd g ρ M H kvs kws → (kvs.any fun kv => eqK kv.1 (kPV k)) = kws.any fun kv => decide (kv.1 = k)
  | [], _, h => by unfold RVd at h; subst h; rfl
  | (q, x) :: r, _, h => by
    unfold RVd at h
    obtain ⟨j, u, s, rfl, rfl, h1, h2⟩ := h
    rw [List.any_cons, List.any_cons, RVd.any h2]
    show (eqK (kPV j) (kPV k) || _) = (decide (j = k) || _)
    rw [eqK_iff]
theorem RVd.put {ρ : List Addr} {M : Mem} {H : Hp} {k : Key} {p : PV} {v : V} {kvs : List (PV × PV)} {kws : List (Key × V)} (hv : RV g ρ M H p v) (h : RVd g ρ M H kvs kws) : RVd g ρ M H (putKV (kPV k) p kvs) (L2.putK kws k v) := by
  unfold putKV L2.putK
  rw [h.any (k := k)]
  cases q : kws.any fun kv => decide (kv.1 = k) with
  | true => rw [if_pos rfl]; exact h.repl hv
  | false => rw [if_neg Bool.false_ne_true]; exact h.snoc hv
theorem putKV_len {x v : PV} {kvs : List (PV × PV)} : (putKV x v kvs).length ≤ kvs.length + 1 := by
  unfold putKV
  split <;> simp
/-- what o[i] = v does, by values -/
def tSt (g : Gx) (W : WX) : TSet := fun o i v H Q => ∃ ρ M ε T σ po pi pv M1, Rl g ρ M H ε T σ ∧ RV g ρ M H po o ∧ RV g ρ M H pi i ∧ RV g ρ M H pv v ∧ setIx po pi pv M = some M1 ∧ ∀ H', Rl g ρ M1 H' ε T σ → Q H'
theorem cell_dic {ρ : List Addr} {M : Mem} {H : Hp} {ε : WT.Env} {T' : List (PV × V)} {σ : SS} {i : Nat} {x : V} {kvs : List (PV × PV)} (R : Rl g ρ M H ε T' σ) (hp : RV g ρ M H (.ref i) x) (e : M[i]? = some (.dic kvs)) :
    ∃ a kws, x = .ref a ∧ ρ[i]? = some a ∧ kvs.length ≤ sizeLine ∧ H a = some (.dK kws) ∧ RVd g ρ M H kvs kws := by
  unfold RV at hp
  obtain ⟨a, rfl, hi⟩ := hp
  obtain ⟨z, kws, h1, h2⟩ := R.cel i a _ hi e
  exact ⟨a, kws, rfl, hi, z, h1, h2⟩
theorem set_run (hu : X.A.units + 65 < cLine) : PSet X (tSt g W) := by
  intro pins s σ0 H o i v ov iv u Q I ro ri rv ⟨ρ, M, ε, T, σ, po, pi, pv, M1, R, ho, hi, hv, e, hQ⟩
  have dic : ∀ {n : Nat} {k : Key} {kvs : List (PV × PV)}, po = .ref n → pi = kPV k → M[n]? = some (.dic kvs) → (if kvs.length < sline then some (M.set n (.dic (putKV (kPV k) pv kvs))) else none) = some M1 → wpAny (model X.prog X.w) X.A (setItem ov iv u) (fun _ s' => ∃ H', Inv X pins σ0 H' s' ∧ Q H') X.xe s := fun {n k kvs} e1 e2 e3 e4 => by
    subst e1 e2
    split at e4
    · rename_i hz
      cases e4
      obtain ⟨a, kws, rfl, hn, _, hH, rr⟩ := cell_dic R ho e3
      have ek : i = kV k := by
        cases k with
        | inl j => exact hi.int
        | inr y => exact hi.str.1
      subst ek
      have hz : kvs.length < sizeLine := by rw [← sline_eq]; exact hz
      have l : Lat ρ M H ρ (M.set n (.dic (putKV (kPV k) pv kvs))) (upd H a (.dK (L2.putK kws k v))) := Lat.put hn e3 (fun z => nomatch z)
      have R' := R.put (c' := .dic (putKV (kPV k) pv kvs)) (o := .dK (L2.putK kws k v)) hn e3 (fun z => nomatch z) ⟨Nat.le_trans putKV_len hz, _, upd_same, RVd.later R.cells l (rr.put hv)⟩
      exact set_dict (by omega) pins s σ0 H _ _ v ov iv u Q I ro ri rv ⟨a, _, rfl, DPut.k hH (by rw [← rr.length]; exact hz), hQ _ R'⟩
    · cases e4
  unfold setIx at e
  split at e
  · rename_i n k
    split at e
    · rename_i xs e1
      obtain ⟨a, ws, rfl, hn, hz, hH, rr⟩ := cell_lst R ho e1
      cases hi.int
      cases q : L2.ixN xs.length k with
      | none => (rw [q] at e; cases e)
      | some j =>
        rw [q] at e
        cases e
        obtain ⟨R', _⟩ := put_lst R hn e1 (ys := xs.set j pv) (us := ws.set j v) (by rw [List.length_set]; exact hz) (rr.set j hv)
        exact set_list pins s σ0 H _ _ v ov iv u Q I ro ri rv ⟨a, ws, k, j, rfl, rfl, hH, by rw [← rr.length]; exact q, hQ _ R'⟩
    · rename_i kvs e1
      exact dic (k := .inl k) rfl rfl e1 e
    · cases e
  · rename_i n k
    split at e
    · rename_i kvs e1
      exact dic (k := .inr k) rfl rfl e1 e
    · cases e
  · cases e
theorem s_seti {a b : Expr} {tpos : Pos} {co ci ce : CE} (hu : X.A.units + 65 < cLine) (ho : SE g W C X a co) (hi : SE g W C X b ci) (he : SE g W C X e ce)
    (hs : swapsWithSole [.Subscript a b tpos] e pos.line X.env = pure false) (hw : swappedStores [.Subscript a b tpos] e X.env = pure none) (h1 : (assignEach [.Subscript a b tpos] X.env).map (·.2) = [assign (.Subscript a b tpos) X.env])
    (has : ∀ v, assign (.Subscript a b tpos) X.env v = (do
      let ov ← holding [v] (eval a X.env)
      let iv ← holding [v, ov] (eval b X.env)
      standAt tpos
      holding [v, ov, iv] (setItem ov iv v)
      release [v, ov, iv] [])) : SS1 g W C X (.Assign [.Subscript a b tpos] e pos) (.seti co ci ce) :=
  ⟨fun pins s σ H D I ⟨ρ, M, ε, T, R, h⟩ => (ps_asg he (pg_sub ho hi (set_run (g := g) (W := W) hu) has) hs hw h1).run pins s σ H D I
    ⟨ρ, M, ε, T, R, (outW.res h σ).imp fun pv ρ1 M1 H1 R1 h1 v rv => by
      have R1' := R1.push rv
      refine ⟨ρ1, M1, ε, _, R1', ((outW.res h1 σ).more (T' := (pv, v) :: T) fun q hq => List.mem_cons_of_mem _ hq).imp fun po ρ2 M2 H2 R2 h2 o ro => ?_⟩
      have R2' := R2.push ro
      refine ⟨ρ2, M2, ε, _, R2', ((outW.res h2 σ).more (T' := (po, o) :: (pv, v) :: T) fun q hq => List.mem_cons_of_mem _ (List.mem_cons_of_mem _ hq)).imp fun pi ρ3 M3 H3 R3 h3 j rj => ?_⟩
      split at h3
      · rename_i M4 e4
        exact ⟨ρ3, M3, ε, _, σ, po, pi, pv, M4, R3, R3.head, rj, R3.tail.head, e4, fun H' R4 => h3 ρ3 H' σ R4.tail.tail⟩
      · exact h3.elim⟩⟩
theorem RVf.put {ρ : List Addr} {M : Mem} {H : Hp} {k : Nat} {p : PV} {v : V} (hi : InjAt g k) (hv : RV g ρ M H p v) : ∀ {fs : List (Nat × PV)} {fs' : List (Str × V)}, RVf g ρ M H fs fs' → RVf g ρ M H (WT.putF k p fs) (L2.putF (g.nm k) v fs')
  | [], _, h => by
    unfold RVf at h
    subst h
    show RVf g ρ M H [(k, p)] [(g.nm k, v)]
    unfold RVf
    exact ⟨v, [], rfl, hv, by unfold RVf; rfl⟩
  | (j, x) :: r, _, h => by
    unfold RVf at h
    obtain ⟨u, s, rfl, h1, h2⟩ := h
    have ih := RVf.put hi hv h2
    show RVf g ρ M H (if j = k then (k, p) :: r else (j, x) :: WT.putF k p r) (if g.nm j = g.nm k then (g.nm j, v) :: s else (g.nm j, u) :: L2.putF (g.nm k) v s)
    by_cases e : j = k
    · subst e
      rw [if_pos rfl, if_pos rfl]
      unfold RVf
      exact ⟨v, s, rfl, hv, h2⟩
    · rw [if_neg e, if_neg fun z => e (hi j z)]
      unfold RVf
      exact ⟨u, _, rfl, h1, ih⟩
theorem s_setf {j : Nat} {co ce : CE} (hj : InjAt g j) (hf : ∀ c, C.G.flds.contains (c, j) = true → Cls X.K (g.ca c) ∧ NoAttr X.K (g.ca c) (g.nm j)) (ho : SE g W C X o co) (he : SE g W C X e ce) (hs : swapsWith e (some (.Attribute o (g.nm j) pos')) pos.line X.env = pure false) :
    SS1 g W C X (.Assign [.Attribute o (g.nm j) pos'] e pos) (.setf co j ce) :=
  ⟨fun pins s σ H D I ⟨ρ, M, ε, T, R, h⟩ => (ps_fld ho he hs).run pins s σ H D I
    ⟨ρ, M, ε, T, R, (outW.res h σ).imp fun pv ρ1 M1 H1 R1 h1 v rv => by
      refine ⟨ρ1, M1, ε, _, R1.push rv, ((outW.res h1 σ).more (T' := (pv, v) :: T) fun q hq => List.mem_cons_of_mem _ hq).imp fun po ρ2 M2 H2 R2 h2 o ro => ?_⟩
      split at h2
      · rename_i i
        split at h2
        · rename_i c fs e1
          split at h2
          · rename_i ec
            rw [Bool.and_eq_true] at ec
            obtain ⟨hc, hn⟩ := hf c ec.2
            unfold RV at ro
            obtain ⟨a, rfl, hi⟩ := ro
            obtain ⟨dx, fs', hH, rf⟩ := R2.cel i a _ hi e1
            have hlen : fs'.length < 1000 := by
              have : ∀ {fs : List (Nat × PV)} {fs' : List (Str × V)}, RVf g ρ2 M2 H2 fs fs' → fs.length = fs'.length := by
                intro fs
                induction fs with
                | nil => intro fs' h; unfold RVf at h; subst h; rfl
                | cons q r ih =>
                  intro fs' h
                  obtain ⟨a, b⟩ := q
                  unfold RVf at h
                  obtain ⟨v, s, rfl, _, h2⟩ := h
                  simp [ih h2]
              rw [← this rf]
              exact of_decide_eq_true ec.1
            have l : Lat ρ2 M2 H2 ρ2 (M2.set i (.ins c (WT.putF j pv fs))) (upd H2 a (.ins (g.ca c) dx (L2.putF (g.nm j) v fs'))) := Lat.put hi e1 (fun z => nomatch z)
            have R3 := R2.put (c' := .ins c (WT.putF j pv fs)) (o := .ins (g.ca c) dx (L2.putF (g.nm j) v fs')) hi e1 (fun z => nomatch z) ⟨dx, _, upd_same, RVf.later R2.cells l (RVf.put hj R2.head rf)⟩
            exact ⟨a, _, dx, fs', rfl, hH, hc, hn, hlen, h2 ρ2 _ σ R3.tail⟩
          · exact h2.elim
        · exact h2.elim
      · exact h2.elim⟩⟩
theorem s_aug {i : Nat} {x : Str} {op : Operator} {ce : CE} (hop : op = .Add ∨ op = .Sub) (hN : X.N.Nodup) (hi : X.N[i]? = some x) (hx : Loc X.env.scope x) (he : SE g W C X e ce) (hf : X.fn x = true ∨ X.env.scope.names.lookup x = some .local) : SS1 g W C X (.AugAssign (.Name x pos') op e pos) (.aug i op ce) :=
  ⟨fun pins s σ H D I ⟨ρ, M, ε, T, R, h⟩ => by
    have h : outW g W (match ε[i]? with
      | some (some x) => (ev C ce ε M).out ε fun y M => (match augI op x y with
        | some z => .nx (ε.set i (some z)) M
        | none => .stuck)
      | _ => .stuck) T D := h
    split at h
    · rename_i q e0
      obtain ⟨v0, e1, r0⟩ := R.env i q e0
      have key := (outW.res h σ).imp (B := fun p ρ1 M1 H1 => ∃ a b, q = .int a ∧ p = .int b ∧ ((op = .Add ∧ outW g W (.nx (ε.set i (some (.int (a + b)))) M1) T D) ∨ (op = .Sub ∧ outW g W (.nx (ε.set i (some (.int (a - b)))) M1) T D))) fun p ρ1 M1 H1 R1 h1 => by
        rcases hop with rfl | rfl <;> cases q <;> cases p <;> first
          | exact h1.elim
          | exact ⟨_, _, rfl, rfl, .inl ⟨rfl, h1⟩⟩
          | exact ⟨_, _, rfl, rfl, .inr ⟨rfl, h1⟩⟩
      rcases hop with rfl | rfl
      · refine (ps_aug (pos' := pos') (pos := pos) hN hi hx he ip_add hf).run pins s σ H D I ⟨v0, e1, ρ, M, ε, T, R, key.imp fun p ρ1 M1 H1 R1 ⟨a, b, eq, ep, hh⟩ v rv => ?_⟩
        subst eq ep
        rcases hh with ⟨_, h1⟩ | ⟨z, _⟩
        · exact ⟨a, b, r0.int, rv.int, h1 ρ1 H1 _ (R1.set (.ofInt _))⟩
        · cases z
      · refine (ps_aug (pos' := pos') (pos := pos) hN hi hx he ip_sub hf).run pins s σ H D I ⟨v0, e1, ρ, M, ε, T, R, key.imp fun p ρ1 M1 H1 R1 ⟨a, b, eq, ep, hh⟩ v rv => ?_⟩
        subst eq ep
        rcases hh with ⟨z, _⟩ | ⟨_, h1⟩
        · cases z
        · exact ⟨a, b, r0.int, rv.int, h1 ρ1 H1 _ (R1.set (.ofInt _))⟩
    · exact h.elim⟩
end
end WT
set_option maxRecDepth 100000
set_option autoImplicit false
/-! Exceptions, 2: raise, try. -/
namespace WT
open PySem PySem.Spec PyProof.Rows L2

section
variable {g : Gx} {W : WX} {C : Ctx} {X : Cx} {e o : Expr} {p pos pos' : Pos}
theorem evs_one {c : CE} {ε : WT.Env} {M : Mem} : evs C [c] ε M = (ev C c ε M).bind fun v M => .ok [v] M := rfl
theorem s_raisM {c : Nat} {ce : CE} (hc : X.calm = true) (tk : Takes X W) (hG : C.G.excs.lookup c = some none) (hmk : PMk X e (fun σ H Q => tR g W (ev C ce) σ H fun _ H1 => Q (.ref (g.ca c)) none H1)) : SS1 g W C X (.Raise (some e) none pos) (.rais c [ce]) :=
  ⟨fun pins s σ H D I ⟨ρ, M, ε, T, R, h⟩ => (ps_raise hc tk hmk).run pins s σ H D I (by
    have h : outW g W ((evs C [ce] ε M).out ε fun vs M => match excOf C.G c vs with
      | some e => .er e ε M
      | none => .stuck) T D := h
    rw [evs_one, bind_out] at h
    refine ⟨ρ, M, ε, T, R, (outW.res h σ).imp fun q ρ1 M1 H1 R1 h1 v rv => ?_⟩
    have ee : excOf C.G c [q] = some (.exc c []) := by unfold excOf; rw [hG]; rfl
    have h1 : outW g W (match excOf C.G c [q] with
      | some e => .er e ε M1
      | none => .stuck) T D := h1
    rw [ee] at h1
    exact h1 ρ1 H1 _ none σ R1 ⟨c, [], rfl, rfl, .inl ⟨rfl, rfl⟩⟩)⟩
theorem s_raisV {c j : Nat} {ce : CE} (hc : X.calm = true) (tk : Takes X W) (hG : C.G.excs.lookup c = some (some [j])) (hmk : PMk X e (tMkO (g.ca c) (spX (g.ca c) (g.nm j)) [] (tCons (tR g W (ev C ce)) tNil))) : SS1 g W C X (.Raise (some e) none pos) (.rais c [ce]) :=
  ⟨fun pins s σ H D I ⟨ρ, M, ε, T, R, h⟩ => (ps_raise hc tk hmk).run pins s σ H D I (by
    have h : outW g W ((evs C [ce] ε M).out ε fun vs M => match excOf C.G c vs with
      | some e => .er e ε M
      | none => .stuck) T D := h
    rw [evs_one, bind_out] at h
    refine ⟨ρ, M, ε, T, R, (outW.res h σ).imp fun q ρ1 M1 H1 R1 h1 v rv => ⟨by show 1 ≤ 1000; omega, fun a ha => ⟨a, v, rfl, upd_same, fun dx hd ne => ⟨rfl, dx, [(g.nm j, v)], upd_same, ?_, ?_, ?_⟩⟩⟩⟩
    · rw [upd_ne ne, upd_same]
    · rw [upd_ne ne] at hd; exact hd
    · have hd1 : H1 dx = none := by rw [upd_ne ne] at hd; exact hd
      have eH : upd (L2.del (upd (upd (upd H1 a (exo a (g.ca c) none)) dx (exd dx [(g.nm j, v)])) a (exo a (g.ca c) (some dx))) a) dx (.xd [(g.nm j, v)]) = upd H1 dx (.xd [(g.nm j, v)]) := by
        funext b
        by_cases h1 : b = dx
        · rw [h1, upd_same, upd_same]
        · rw [upd_ne h1, upd_ne h1]
          by_cases h2 : b = a
          · rw [h2, del_same, ha]
          · rw [del_ne h2, upd_ne h2, upd_ne h1, upd_ne h2]
      rw [eH]
      have ee : excOf C.G c [q] = some (.exc c [(j, q)]) := by unfold excOf; rw [hG]; rfl
      have h1 : outW g W (match excOf C.G c [q] with
        | some e => .er e ε M1
        | none => .stuck) T D := h1
      rw [ee] at h1
      refine h1 ρ1 _ _ (some dx) σ (R1.alloc hd1) ⟨c, _, rfl, rfl, .inr ⟨dx, [(g.nm j, v)], rfl, upd_same, fun l => R1.live_some l hd1, ?_⟩⟩
      unfold RVf
      exact ⟨v, [], rfl, rv.later R1.cells (Lat.alloc hd1), by unfold RVf; rfl⟩)⟩

/-! ### try .. except B as n -/
/-- an object that stands, tracked from here on -/
theorem Inv.track {pins : List (Addr × Obj)} {s : Shared} {σ : SS} {H : Hp} {a : Addr} {o : HO} (I : Inv X pins σ H s) (hn : H a = none) (h0 : X.s_0.heap.get? a = none) (hL : a ≠ X.env.locals) (hC : ∀ x c, X.env.cells.lookup x = some c → c ≠ a) (hP : ∀ q ∈ X.pn ++ pins, q.1 ≠ a)
    (new : ObjOk X.prog X.w (upd H a o) s.heap a o) : Inv X pins σ (upd H a o) s :=
  ⟨I.ok, I.os, I.bare, ⟨I.base.keep, I.base.slot, fun b u e n hx => by
      rw [upd_ne (fun z => by rw [z, h0] at e; cases e)]
      exact I.base.free b u e n hx, I.base.there, fun b xs e => by
      have z := I.base.tups b xs e
      rw [upd_ne (ne_of_none z hn)]; exact z, fun b u xs e => by
      have z := I.base.frzs b u xs e
      rw [upd_ne (ne_of_none z hn)]; exact z, fun b ps e => by
      obtain ⟨more, z⟩ := I.base.tbls b ps e
      exact ⟨more, by rw [upd_ne (ne_of_none z hn)]; exact z⟩⟩, I.loc, I.cell, by rw [upd_ne (Ne.symm hL)]; exact I.free, fun x c e => by rw [upd_ne (hC x c e)]; exact I.freeC x c e,
    fun q hq => by
      obtain ⟨e, n, r⟩ := I.pin q hq
      exact ⟨e, by rw [upd_ne (hP q hq)]; exact n, r⟩, I.hok.laidN (fun _ _ z => z) hn new, I.len⟩
theorem Inv.toSuite {pins : List (Addr × Obj)} {s : Shared} {σ : SS} {H : Hp} (I : Inv X pins σ H s) (a : Addr) : Inv (X.suite a (X.pn ++ pins)) [] σ H s :=
  ⟨I.ok.suite _ _, I.os, I.bare, I.base, I.loc, I.cell, I.free, I.freeC, fun q hq => I.pin q (by rw [List.append_nil] at hq; exact hq), I.hok, I.len⟩
theorem Inv.ofSuite {pins pn' : List (Addr × Obj)} {s : Shared} {σ : SS} {H : Hp} {a : Addr} (I : Inv (X.suite a (X.pn ++ pins)) pn' σ H s) (ok : X.Ok) : Inv X pins σ H s :=
  ⟨ok, I.os, I.bare, I.base, I.loc, I.cell, I.free, I.freeC, fun q hq => I.pin q (List.mem_append_left _ hq), I.hok, I.len⟩
/-- what the body's exceptions are to be -/
def wTry (g : Gx) (W : WX) (C : Ctx) (c i : Nat) (cs : List CS) (T : List (PV × V)) (D : Ends) : WX := fun cls d σ H =>
  ∃ e ε M ρ, Rl g ρ M H ε T σ ∧ RX g ρ M H e cls d ∧ outW g W (catch_ C.G c (some i) (fun ε M => exs C cs ε M) (.er e ε M)) T D
theorem unset_of {i : Nat} {o : Out} {T : List (PV × V)} {D : Ends} (h : outW g W (o.unset (some i)) T D) : outW g (fun _ _ _ _ => False) o T { nx := fun σ' H' => D.nx (σ'.set i none) H', rt := D.rt, bk := fun σ' H' => D.bk (σ'.set i none) H', ct := fun σ' H' => D.ct (σ'.set i none) H' } := by
  cases o with
  | nx ε M => exact fun ρ H σ R => h ρ H _ R.unset
  | bk ε M => exact fun ρ H σ R => h ρ H _ R.unset
  | ct ε M => exact fun ρ H σ R => h ρ H _ R.unset
  | rt v M => exact h
  | er e ε M => exact False.elim h
  | stuck => exact h
theorem s_try {c i : Nat} {x n : Str} {body suite : List Stmt} {b0 : Stmt} {np : Pos} {cb cs : List CS} (hst : X.stack = X.env :: X.outer) (hfr : X.env.frame = some X.env.locals) (hex : X.ex = []) (hN : X.N.Nodup) (hi : X.N[i]? = some n) (hln : X.env.kindOf n = some .local) (hcn : Names X x (.ref (g.ca c))) (tk : Takes X W)
    (hsub : ∀ d l, clsOk C.G true d = some l → PySem.W.exmOne X.K (.ref (g.ca d)) (.ref (g.ca c)) = some (l.contains c))
    (hb : ∀ (W' : WX) (pn : List (Addr × Obj)) (xe : Value → Shared → Prop), Takes (X.tr pn xe) W' → PassesOwn (model X.prog X.w) X.A X.env xe → SSs g W' C (X.tr pn xe) body cb)
    (hsu : ∀ (a : Addr) (pn : List (Addr × Obj)), SSs g (fun _ _ _ _ => False) C (X.suite a pn) (b0 :: suite) cs) :
    SS1 g W C X (.Try body [.ExceptHandler (some (.Name x np)) (some n) (b0 :: suite) pos'] [] [] pos) (.tryx cb c (some i) cs) := by
  refine ⟨fun pins s σ H D I ⟨ρ, M, ε, T, R, h⟩ => ?_⟩
  have ok := I.ok
  have hA : X.A.frames = some (X.env :: X.outer) := by rw [ok.frames, hst]
  have hbody : outW g (wTry g W C c i cs T D) (exs C cb ε M) T D := by
    have h : outW g W (catch_ C.G c (some i) (fun ε M => exs C cs ε M) (exs C cb ε M)) T D := h
    cases q : exs C cb ε M with
    | er e ε1 M1 => rw [q] at h; exact fun ρ1 H1 cls d σ1 R1 rx => ⟨e, ε1, M1, ρ1, R1, rx, h⟩
    | _ => rw [q] at h; exact h
  refine wpAny_Try_except ?_
  refine wpAny_mono ((hb (wTry g W C c i cs T D) (X.pn ++ pins) (fun e s₁ => wpAny (model X.prog X.w) X.A (noteFrame e X.env) (fun _ s₂ => wpAny (model X.prog X.w) X.A (setFlight e none) (fun _ s₃ =>
    wpAny (model X.prog X.w) X.A (handleBy e X.env [.ExceptHandler (some (.Name x np)) (some n) (b0 :: suite) pos']) (SP X pins D) X.xe s₃) X.xe s₂) X.xe s₁) (fun u s' xx => ?_) PassesOwn.looking).run [] s σ H D (I.toTry _) ⟨ρ, M, ε, T, R, hbody⟩) (fun f s1 hsp => ?_) (fun e s1 he => he)
  · obtain ⟨a, B, sI, pins', σ', H', cls, d, rfl, J', nb, up, sky, na, os, ag, e, ε1, M1, ρ1, R1, rx, h1⟩ := xx
    have J : Inv X pins σ' H' sI := J'.ofTry ok
    have sky' : Sky B (X.env :: X.outer) a (Zc cls d) X.env.locals s'.heap := by rw [← hst]; exact sky
    show wpAny (model X.prog X.w) X.A (noteFrame (.ref a) X.env) _ _ _
    refine Sky.land Zc.steady hA hfr sky' fun h3 fl3 up3 => ?_
    have J3 : Inv X pins σ' H' { s' with heap := h3 } := J.landed nb fl3.1 (up.trans up3) os ag
    obtain ⟨oe3, vs3, he3, hz3, hd3⟩ := fl3.there
    have nfr : a ∉ frs (X.env :: X.outer) := fun hm => by
      obtain ⟨_, o', e', hnf⟩ := fl3.2.2.1.mem hm
      rw [he3] at e'
      cases e'
      exact hnf _ hd3
    have nL : a ≠ X.env.locals := fun z => nfr (List.mem_filterMap.mpr ⟨X.env, List.mem_cons_self, by rw [hfr, z]⟩)
    have nS : sI.heap.get? a = none := by
      cases q : sI.heap.get? a with
      | none => rfl
      | some o =>
        have z := nb a o q (by rw [hst]; exact nfr)
        rw [fl3.2.1] at z
        cases z
    have n0 : X.s_0.heap.get? a = none := by
      cases q : X.s_0.heap.get? a with
      | none => rfl
      | some o =>
        obtain ⟨o', z⟩ := J.base.there a o q (by rw [hex]; exact List.not_mem_nil)
        rw [nS] at z
        cases z
    have nP : ∀ q ∈ X.pn ++ pins, q.1 ≠ a := fun q hq z => by
      have e := (J.pin q hq).1
      rw [z, nS] at e
      cases e
    have nC : ∀ y k, X.env.cells.lookup y = some k → k ≠ a := fun y k hk z => by
      obtain ⟨w', zz⟩ := J.cell y k hk
      obtain ⟨oc, hoc, _⟩ := id zz
      rw [z, nS] at hoc
      cases hoc
    obtain ⟨d0, fs, rfl, rfl, hdx⟩ := rx
    have h1 : outW g W (match clsOk C.G true d0 with
      | some l => (match l.contains c with
        | true => (exs C cs (ε1.set i (some (.exc d0 fs))) M1).unset (some i)
        | false => .er (.exc d0 fs) ε1 M1)
      | none => .stuck) T D := h1
    cases hl : clsOk C.G true d0 with
    | none => rw [hl] at h1; exact h1.elim
    | some l =>
      rw [hl] at h1
      have h1 : outW g W (match l.contains c with
        | true => (exs C cs (ε1.set i (some (.exc d0 fs))) M1).unset (some i)
        | false => .er (.exc d0 fs) ε1 M1) T D := h1
      have hm := hsub d0 l hl
      have S3 := WT.Inv.toSuite J3 a
      refine wpAny_handleBy_cons (codeAny_handlers_test ?_) (by intro q; cases q)
      have LT : PySem.W.Looks (model X.prog X.w) h3 (typeOf (.ref a)) (.ref (g.ca d0)) := fun A Q E s k q => wpAny_typeOf_ref (k _ _ he3) (by rw [hz3.1]; exact q)
      have LM := PySem.W.exm_one (M := model X.prog X.w) (J3.kIn) LT hm
      have test : ∀ {Q : Value → Shared → Prop} {E : Value → Shared → Prop}, Q (.ref (g.ca c)) { s' with heap := h3 } → wpAny (model X.prog X.w) (X.A.mark (some (.ref a))) (eval (.Name x np) X.env) Q E { s' with heap := h3 } := fun {Q E} q => by
        obtain ⟨hg, hdbg, hmg | ⟨hmg, hv, hnn⟩⟩ := hcn
        · exact ld_glob (X := X.suite a (X.pn ++ pins)) S3 hg hmg q hdbg
        · exact ld_blt (X := X.suite a (X.pn ++ pins)) S3 hg hmg hv q hnn hdbg
      refine test (LM.here ?_)
      cases hlc : l.contains c with
      | true =>
        rw [hlc] at h1
        refine codeAny_handlers_suite_as ?_
        refine HandSPX.lands_againZ fl3 fun h4 fl4 up4 => ?_
        have J4 : Inv X pins σ' H' { s' with heap := h4 } := J.landed nb fl4.1 ((up.trans up3).trans up4) os ag
        obtain ⟨oe4, vs4, he4, hz4, hd4⟩ := fl4.there
        have J5 : Inv X pins σ' (upd H' a (XO (.ref (g.ca d0)) d a)) { s' with heap := h4 } := WT.Inv.track J4 na n0 nL nC nP (xo_ok he4 hz4 hd4)
        have R2 : Rl g ρ1 M1 (upd H' a (XO (.ref (g.ca d0)) d a)) ε1 T σ' := R1.alloc na
        have rv : RV g ρ1 M1 (upd H' a (XO (.ref (g.ca d0)) d a)) (.exc d0 fs) (.ref a) := by
          unfold RV
          refine ⟨a, rfl, fun lv => R1.live_some lv na, ?_⟩
          rcases hdx with ⟨e1, e2⟩ | ⟨dx, fs', e1, e2, e3, e4⟩
          · subst e1 e2
            exact .inl ⟨rfl, upd_same⟩
          · subst e1
            exact .inr ⟨dx, fs', upd_same, by rw [upd_ne (ne_of_none e2 na)]; exact e2, e3, RVf.later R1.cells (Lat.alloc na) e4⟩
        refine store_ok (X := X.suite a (X.pn ++ pins)) (v := .ref a) (WT.Inv.toSuite J5 a) hN hi (.inl hln) rfl (fun s5 S5 => ?_) (.inr hln)
        refine wpAny_mono ((hsu a (X.pn ++ pins)).run [] s5 _ _ _ S5 ⟨ρ1, M1, ε1.set i (some (.exc d0 fs)), T, R2.set rv, unset_of h1⟩) (fun f s6 hsp => ?_) (fun _ _ z => False.elim z)
        have end_ : ∀ {σ6 : L2.St} {H6 : Hp} {Q : Shared → Prop}, Inv (X.suite a (X.pn ++ pins)) [] σ6 H6 s6 → (∀ s7, Inv X pins (σ6.set i none) H6 s7 → Q s7) →
            wpAny (model X.prog X.w) X.A (do bindName X.env n .none; unbindBehindTheSuite X.env n pos') (fun _ s7 => Q s7) X.xe s6 := fun {σ6 H6 Q} S6 hq => gone_ok (WT.Inv.ofSuite S6 ok) hN hi hln hq
        cases f with
        | ret u =>
          obtain ⟨v6, σ6, H6, S6, r6, q6⟩ := hsp
          exact end_ S6 fun s7 J7 => ⟨_, _, _, J7, r6, q6⟩
        | _ =>
          obtain ⟨σ6, H6, S6, q6⟩ := hsp
          exact end_ S6 fun s7 J7 => ⟨_, _, J7, q6⟩
      | false =>
        rw [hlc] at h1
        show wpAny _ X.A (handleBy (.ref a) X.env []) _ _ _
        refine wpAny_handleBy_nil ?_
        obtain ⟨k1, k2, k3, oe, vs, T', oT, ts', he, hz, hd, hh1, hr⟩ := id fl3
        unfold PySem.passOn
        refine wpAny_bind (wpAny_field he hd hh1 ?_)
        rw [if_neg (show ¬ ((Value.ref T' == Value.none) = true) from by simp)]
        have fin : wpAny (model X.prog X.w) X.A (setFlight (.ref a) X.env.frame) (fun _ s4 => wpAny (model X.prog X.w) X.A (throw (.ref a) : Sem Flow) (SP X pins D) X.xe s4) X.xe { s' with heap := h3 } := by
          rw [hfr]
          refine HandSPX.setFlight_upZ fl3 fun h4 hh4 up4 => wpAny_throw (tk _ _ ?_)
          exact ⟨a, B, sI, pins, σ', H', _, d, rfl, J, nb, (up.trans up3).trans up4, .inr (.inr (by rw [hst]; exact hh4)), na, os, ag, h1 ρ1 H' _ d σ' R1 ⟨d0, fs, rfl, rfl, hdx⟩⟩
        first
          | exact wpAny_bind (wpAny_pure (wpAny_bind fin))
          | exact wpAny_bind fin
  · cases f with
    | ret u =>
      obtain ⟨v, σ', H', J', r, q⟩ := hsp
      exact ⟨v, σ', H', J'.ofTry ok, r, q⟩
    | next =>
      obtain ⟨σ', H', J', q⟩ := hsp
      exact wpAny_execs_nil ⟨σ', H', J'.ofTry ok, q⟩
    | _ =>
      obtain ⟨σ', H', J', q⟩ := hsp
      exact ⟨σ', H', J'.ofTry ok, q⟩
end
end WT
set_option maxRecDepth 100000
set_option autoImplicit false
/-! A def's promise from its body. -/
namespace WT
open PySem PySem.Spec PyProof.Rows L2

theorem fnG_of {CT : CXT} {P : Program} {w : World} {K : PySem.W.Frag} {mg : Str → Option Value} {base : Heap} {k : Nat} {f : Addr} {name qual : Str} {params : Arguments} {body : List Stmt} {scope : Scope} {dV kV doc pm cdv ct oc : Value} {an od : Option Addr}
    {osl : Array (Option Value)} {N ps : List Str} {sp : Sp} (lk : K.lookup f = some ⟨oc, od, .func (PySem.W.fnOf name qual params body scope dV kV doc pm an cdv ct), osl⟩) (hcd : PySem.W.codeIn K cdv qual = true) (S : FnScope N ps scope) (len : ∀ vs H Q E, sp vs H Q E → vs.length = ps.length)
    (hbody : ∀ (A : Around) (outer : List PySem.Env) (s : Shared) (H : Hp) (vs : List V) (Q : VK) (E : XK), Room k (A.deeper (envOfC qual scope s.heap.objs.size f cdv)) → A.guards = some [] → sp vs H Q E →
      ∃ t, PSs (cxOf CT P w K mg base N qual scope f cdv A outer s H E) body t ∧ t { nx := fun _ H' => Q .non H', rt := Q } (start N vs) H) :
    FnG P w K mg base CT (k + 1) f (PySem.W.fnOf name qual params body scope dV kV doc pm an cdv ct) ps sp := by
  refine ⟨len, fun A outer s H args us vs Q E hr hgd e0 hb r hsp => ?_⟩
  have KX : K.In s.heap := e0.mod.kin.keeps fun b o e => (e0.bs b o e).1
  have lim : s.heap.NoLimit := e0.mod.nolimit.keeps fun b o e => (e0.bs b o e).1
  have hkind : ∀ y ∈ ps.zip us, scope.names.lookup y.1 = some .local ∨ (scope.names.lookup y.1 = some .cell ∧ ((cellsFrom (s.heap.objs.size + 1) scope.names []).lookup y.1).isSome = true) := fun ⟨n, v⟩ hy =>
    (S.par n (List.of_mem_zip hy).1).imp id fun q => ⟨q, PySem.W.cellsFrom_some _ _ _ (.inl q)⟩
  refine codeAny_call_function hr.depth (KX _ _ lk) rfl S.co S.gen rfl (PySem.W.codeRec_of KX hcd) (hb _ _ _ _ (wpAny_newFunctionEnv_cells S.kind hkind fun env he s1 x => ?_))
  subst he
  refine ⟨lim.keeps x.toInCall.keep, codeAny_func ?_⟩
  obtain ⟨t, ht, hq⟩ := hbody A outer s H vs Q E (hr.deeper _) hgd hsp
  have I : L2.Inv (cxOf CT P w K mg base N qual scope f cdv A outer s H E) [] (start N vs) H s1 := inv_start S hr.hd e0 (len _ _ _ _ hsp) r x
  refine wpAny_mono (ht.run [] s1 (start N vs) H _ I hq) (fun fl s' hs => ?_) fun e s' hs => hs
  cases fl with
  | ret u =>
    obtain ⟨v, σ', H', J, rv, q⟩ := hs
    exact ⟨v, H', J.os, J.bare, J.base, J.hok, rv, q⟩
  | next =>
    obtain ⟨σ', H', J, q⟩ := hs
    exact ⟨V.non, H', J.os, J.bare, J.base, J.hok, rfl, q⟩
  | _ =>
    obtain ⟨_, _, _, q⟩ := hs
    exact False.elim q
section
variable {g : Gx} {W : WX} {C : Ctx}
/-- an exception's reading behind a call -/
theorem RX.take {ρ : List Addr} {M : Mem} {H : Hp} {n : Nat} {e : PV} {cls : Value} {d : Option Addr} (h : RX g ρ M H e cls d) (l : e.lt n = true) : RX g (ρ.take n) (M.take n) H e cls d := by
  obtain ⟨c, fs, rfl, rfl, h⟩ := h
  refine ⟨c, fs, rfl, rfl, ?_⟩
  rcases h with h | ⟨dx, fs', h1, h2, h3, h4⟩
  · exact .inl h
  · exact .inr ⟨dx, fs', h1, h2, fun z => h3 (live_take z), RVf.take' h4 l⟩
theorem fin_exc {ρ ρ1 : List Addr} {M M1 : Mem} {H H1 : Hp} {T : List (PV × V)} {e : PV} {cls : Value} {d : Option Addr} (R : Rl g ρ M H [] T []) (R1 : Rl g ρ1 M1 H1 [] T []) (h : RX g ρ1 M1 H1 e cls d) : ∃ ρ2, Rl g ρ2 (WT.fin M e M1).2 H1 [] T [] ∧ RX g ρ2 (WT.fin M e M1).2 H1 e cls d := by
  unfold WT.fin
  cases q : (e.lt M.length && dropOk M.length M M1) with
  | false => exact ⟨ρ1, R1, h⟩
  | true =>
    rw [Bool.and_eq_true] at q
    exact ⟨_, R.drop R1 q.2, h.take q.1⟩
/-- the slots at the entry -/
theorem start_env {ρ : List Addr} {M : Mem} {H : Hp} {T : List (PV × V)} {as : List PV} {vs : List V} {N : List Str} {ns np : Nat} (R : Rl g ρ M H [] T []) (h : RVs g ρ M H as vs) (hn : N.length = ns) (hp : as.length = np) : Rl g ρ M H (as.map some ++ List.replicate (ns - np) none) T (start N vs) := by
  have hl := h.length
  refine R.envs ?_ fun i p e => ?_
  · unfold L2.start
    simp only [List.length_append, List.length_map, List.length_replicate]
    omega
  · unfold L2.start
    by_cases hi : i < as.length
    · rw [List.getElem?_append_left (by simpa using hi), List.getElem?_map] at e
      rw [List.getElem?_append_left (by simpa [← hl] using hi), List.getElem?_map]
      cases q : as[i]? with
      | none => (rw [q] at e; cases e)
      | some a =>
        rw [q] at e
        cases e
        obtain ⟨v, h1, h2⟩ := h.get q
        exact ⟨v, by rw [h1] <;> rfl, h2⟩
    · rw [List.getElem?_append_right (by simpa using Nat.le_of_not_lt hi), List.getElem?_replicate] at e
      split at e <;> cases e
/-- a def keeps its promise -/
theorem fn_keeps {P : Program} {w : World} {K : PySem.W.Frag} {mg : Str → Option Value} {base : Heap} {k : Nat} {f : Addr} {name qual : Str} {params : Arguments} {body : List Stmt} {scope : Scope} {dV kV doc pm cdv ct oc : Value} {an od : Option Addr}
    {osl : Array (Option Value)} {N ps : List Str} {d : FDef} {call : Nat → List PV → Mem → Res PV} {fi : Nat} (lk : K.lookup f = some ⟨oc, od, .func (PySem.W.fnOf name qual params body scope dV kV doc pm an cdv ct), osl⟩) (hcd : PySem.W.codeIn K cdv qual = true) (S : FnScope N ps scope)
    (hcall : call fi = fun as M => runFn C (.fn d) as M) (hns : N.length = d.ns) (hnp : ps.length = d.np)
    (hbody : ∀ (A : Around) (outer : List PySem.Env) (s : Shared) (H : Hp) (E : XK), Room k (A.deeper (envOfC qual scope s.heap.objs.size f cdv)) → A.guards = some [] → Takes (cxOf (L2.CX P w) P w K mg base N qual scope f cdv A outer s H E) (fun cls d _ H => E cls d H) →
      SSs g (fun cls d _ H => E cls d H) C (cxOf (L2.CX P w) P w K mg base N qual scope f cdv A outer s H E) body d.body) :
    FnG P w K mg base (L2.CX P w) (k + 1) f (PySem.W.fnOf name qual params body scope dV kV doc pm an cdv ct) ps (spOf g call fi) := by
  refine fnG_of lk hcd S (fun vs H Q E ⟨ρ, M, T, as, R, rv, h⟩ => ?_) fun A outer s H vs Q E hr hgd ⟨ρ, M, T, as, R, rv, h⟩ => ?_
  · rw [hcall] at h
    have h : resC g (if as.length = d.np then finO M (exs C d.body (as.map some ++ List.replicate (d.ns - d.np) none) M) else .stuck) T Q E := h
    split at h
    · rename_i hl
      rw [← rv.length, hl, hnp]
    · exact h.elim
  · rw [hcall] at h
    have h : resC g (if as.length = d.np then finO M (exs C d.body (as.map some ++ List.replicate (d.ns - d.np) none) M) else .stuck) T Q E := h
    split at h
    · rename_i hl
      refine ⟨_, hbody A outer s H E hr hgd (takes_of rfl rfl rfl rfl), ρ, M, _, T, start_env R rv hns hl, ?_⟩
      cases q : exs C d.body (as.map some ++ List.replicate (d.ns - d.np) none) M with
      | nx ε1 M1 =>
        rw [q] at h
        intro ρ1 H1 σ1 R1
        obtain ⟨ρ2, R2, k2⟩ := R.fin (p := .non) R1.out
        exact h ρ2 H1 R2 _ (k2 _ .ofNon)
      | rt v M1 =>
        rw [q] at h
        intro ρ1 H1 R1 x rx
        obtain ⟨ρ2, R2, k2⟩ := R.fin (p := v) R1
        exact h ρ2 H1 R2 _ (k2 _ rx)
      | er e ε1 M1 =>
        rw [q] at h
        intro ρ1 H1 cls dd σ1 R1 rx
        obtain ⟨ρ2, R2, k2⟩ := fin_exc R R1.out rx
        exact h ρ2 H1 cls dd R2 k2
      | bk ε1 M1 => rw [q] at h; exact h.elim
      | ct ε1 M1 => rw [q] at h; exact h.elim
      | stuck => rw [q] at h; exact h.elim
    · exact h.elim
end
end WT
set_option maxRecDepth 100000
set_option autoImplicit false
/-! isinstance. -/
namespace PySem.W
open PySem PySem.Spec PySem.Calls PyProof.Rows
section
variable {prog : Program} {w : World} {A : Around} {E : Value → Shared → Prop} {s : Shared} {K : Frag} {x D : Addr} {ox : Obj} {od : Option Obj}
theorem wt_findD {C : Addr} {name : Str} {a g : Value} (hc : (clsIn K C).isSome = true) (ha : findIn K (.ref C) name = some (some a)) (hg : specialIn K a "__get__" = some (some g)) (ht : takesIn K a = some true) : findObj K C od name = some (.bind g a) := by
  obtain ⟨cd, hc⟩ := Option.isSome_iff_exists.mp hc
  unfold findObj
  rw [hc, Option.bind_some, ha, Option.bind_some]
  simp [hg, ht]
/-- x.__class__ of an exception, with a dict of its own or without -/
theorem wt_excClass {Q : Option Value → Shared → Prop} (c : L2.ExcC K D) (X : K.In s.heap) (I : InstAt s.heap x ox D od) (h : Q (some (.ref D)) { s with toks := s.toks + 1 }) : wpAny (model prog w) A (getAttr? (.ref x) "__class__") Q E s := by
  have hf : findObj K D od "__class__" = some (.bind (.builtin "getset_descriptor.__get__") (.builtin "object.__class__")) := wt_findD (by obtain ⟨cd, hc, _⟩ := any_some c.hd; rw [hc]; rfl) c.ha c.hn c.ht
  obtain ⟨hp, g, d, t, os⟩ := s
  have L0 := I.type (M := model prog w)
  have L1 := looks_findIn (M := model prog w) X c.hg
  have L2' := looks_findIn (M := model prog w) X c.hk
  have L3 := looks_find (M := model prog w) X I hf
  have sub : Looks (model prog w) hp (isInstance (.ref x) (.type "BaseException")) true := L0.andThen (looks_subIn X c.hs)
  have n2 : (Value.builtin "BaseException.__getattribute__" == Value.builtin "object.__getattribute__") = false := by decide +kernel
  have n1 : (onTheHeap (Value.ref D) && Value.builtin "BaseException.__getattribute__" == Value.builtin "object.__getattribute__") = false := by rw [n2]; rfl
  unfold getAttr? getAttrBy? getAttrBy
  refine wpAny_bind (wpAny_mkText (wpAny_bind (wpAny_attempt (wpAny_holding (wpAny_bind (L0.at (wpAny_bind (L1.at ?_))))))))
  show wpAny _ _ (if (onTheHeap (Value.ref D) && Value.builtin "BaseException.__getattribute__" == Value.builtin "object.__getattribute__") = true then _ else _) _ _ _
  rw [n1, if_neg Bool.false_ne_true]
  unfold getAttrByItsOwn hookBefore
  refine wpAny_bind ?_
  rw [if_pos (show onTheHeap (Value.ref D) = true from rfl)]
  refine L2'.at ?_
  refine wpAny_bind (wpAny_attempt (wpAny_holding ?_))
  unfold callGetattribute
  rw [show (false && onTheHeap (Value.builtin "BaseException.__getattribute__")) = false from rfl, if_neg Bool.false_ne_true]
  unfold boundAndCalled
  rw [PySem.F.excAttr_ValueError.ga.bind (.ref x)]
  refine wpAny_bind (wpAny_pure ?_)
  show wpAny _ _ (call (.builtin "BaseException.__getattribute__") [.ref x, .str "__class__" t]) _ _ _
  refine wpAny_call (codeAny_call_builtin PySem.F.excAttr_ValueError.ga.plain PySem.F.entry_bexc_ga ?_)
  refine @check_slot (model prog w) _ _ ⟨hp, g, d, t + 1, os⟩ "BaseException.__getattribute__" "BaseException" "__getattribute__" (.ref x) [.str "__class__" t] [] _ (by decide +kernel) (by decide +kernel) sub (PySem.F.args_bexc_ga (.ref x) (.str "__class__" t)) ?_
  unfold Builtin.«object.__getattribute__»
  refine wpAny_bind (wpAny_of_eq (a := ((Value.ref x : Value), [Value.str "__class__" t])) (by first | rfl | (simp only [slotArgs]; rfl)) ?_)
  refine wpAny_bind (wpAny_pure (wpAny_bind (L0.at (wpAny_bind (L3.at ?_)))))
  show wpAny _ _ (holding [Value.builtin "object.__class__"] (call (.builtin "getset_descriptor.__get__") [.builtin "object.__class__", .ref x, .ref D]) >>= ret) _ _ _
  refine wpAny_bind (wpAny_holding (wpAny_call (class_get (s := ⟨hp, g, d, t + 1, os⟩) (ox := ox) (od := od) X I c.hm ?_)))
  refine wpAny_pure ?_
  show wpAny _ _ (handedOut (.ref D)) _ _ _
  rw [handedOut_of (v := .ref D) rfl]
  first
    | exact wpAny_pure (wpAny_pure h)
    | exact wpAny_pure h
    | exact wpAny_pure (wpAny_bind (wpAny_pure (wpAny_pure h)))
theorem wt_kitExc (c : L2.ExcC K D) : KitX K (.ref x) (.ref D) (fun h => InstAt h x ox D od) where
  ty := fun _ _ _ I => I.type
  it := fun _ _ X _ => by
    obtain ⟨cdD, hcD, _⟩ := any_some c.hd
    unfold clsIn at hcD
    split at hcD
    · rename_i c' d' cd' sl' ho
      intro A' Q' E' s' k q
      unfold isType loadHead
      exact wpAny_bind (wpAny_loadPart (k _ _ (X _ _ ho)) (wpAny_pure q))
    · cases hcD
  ne := fun h tp dd its n sl X htp => by
    obtain ⟨cdD, hcD, _⟩ := any_some c.hd
    refine Bool.eq_false_iff.mpr fun q => ?_
    have e : D = tp := Value.ref.inj (beq_iff_eq.mp q)
    subst e
    unfold clsIn at hcD
    split at hcD
    · rename_i c' d' cd' sl' ho
      have z := (X _ _ ho).symm.trans htp
      cases z
    · cases hcD
  ca := fun X I k => wt_excClass c X I k
end
end PySem.W
namespace WT
open PySem PySem.Spec PyProof.Rows L2
def vtV (g : Gx) : VT → Value
  | .bt n => .type n
  | .own c => .ref (g.ca c)
  | .xc c => .ref (g.ca c)
def clV (g : Gx) : PV → V
  | .cls c => .ref (g.ca c)
  | .ty n => .ty n
  | _ => .non
def clU (g : Gx) : PV → Value
  | .cls c => .ref (g.ca c)
  | .ty n => .type n
  | _ => .none
/-- the answers, as the written part has them -/
def KitF (g : Gx) (G : Glo) (K : PySem.W.Frag) (t : PV) : Prop := ∀ k b, isVT G k t = some b → PySem.W.kitOne K (vtV g k) (clU g t) = some b
/-- what isinstance looks up at an own class -/
structure InsF (K : PySem.W.Frag) (c : Addr) : Prop where
  cl : Cls K c
  ha : PySem.W.findIn K (.ref c) "__class__" = some (some (.builtin "object.__class__"))
  hn : PySem.W.specialIn K (.builtin "object.__class__") "__get__" = some (some (.builtin "getset_descriptor.__get__"))
  ht : PySem.W.takesIn K (.builtin "object.__class__") = some true
  hm : PySem.W.mroIn K c (.type "object") = some true
def OwnF (g : Gx) (G : Glo) (K : PySem.W.Frag) : Prop := (∀ c l, clsOk G false c = some l → InsF K (g.ca c)) ∧ ∀ c l, clsOk G true c = some l → ExcC K (g.ca c)
section
variable {g : Gx} {W : WX} {C : Ctx} {X : Cx} {ρ : List Addr} {M : Mem} {H : Hp} {ε : WT.Env} {T : List (PV × V)} {σ : SS} {pins : List (Addr × Obj)} {s : Shared}
theorem vt_kit (hK : X.K = g.K) {G : Glo} (hO : OwnF g G X.K) (I : L2.Inv X pins σ H s) (R : Rl g ρ M H ε T σ) {p : PV} {x : V} {u : Value} {k : VT} {t : PV} {b : Bool} (hp : RV g ρ M H p x) (rx : RelV x u) (ek : vtOf (rd M p) = some k) (et : isVT G k t = some b) :
    ∃ P : Heap → Prop, PySem.W.KitX X.K u (vtV g k) P ∧ P s.heap ∧ u ≠ .builtin "__main__.__loader__#opaque" := by
  cases q : rd M p with
  | non =>
    rw [q] at ek
    cases ek
    rw [rd_non q] at hp
    cases hp.non
    exact kit_of I rx (.base .non)
  | bl y =>
    rw [q] at ek
    cases ek
    rw [rd_bl q] at hp
    cases hp.bl
    exact kit_of I rx (.base (.bl y))
  | int y =>
    rw [q] at ek
    cases ek
    rw [rd_int q] at hp
    cases hp.int
    exact kit_of I rx (.base (.int y))
  | str y =>
    rw [q] at ek
    cases ek
    rw [rd_str q] at hp
    obtain ⟨rfl, _⟩ := hp.str
    exact kit_of I rx (.base (.str y))
  | lst xs =>
    rw [q] at ek
    cases ek
    obtain ⟨_, a, vs, rfl, s1, _⟩ := R.listAt hp q
    obtain ⟨_, its, n, _, ho⟩ := (hK.symm ▸ s1 : LQ X.K H a vs).obj I
    cases (show u = Value.ref a from rx)
    exact ⟨_, PySem.W.kitx_list, ⟨_, ho, rfl⟩, fun z => nomatch z⟩
  | tup xs =>
    rw [q] at ek
    cases ek
    obtain ⟨_, a, vs, rfl, s1, _⟩ := R.tupAt hp q
    obtain ⟨its, _, ⟨o, ho, hc, _⟩, _⟩ := I.tuple (hK ▸ s1)
    cases (show u = Value.ref a from rx)
    exact ⟨_, PySem.W.kitx_tuple, ⟨o, ho, hc⟩, fun z => nomatch z⟩
  | dic kvs =>
    rw [q] at ek
    cases ek
    obtain ⟨a, kws, rfl, s1, _⟩ := R.dictAt hp q
    rcases s1 with s1 | ⟨o, s1⟩
    · exact kit_of I rx (.base (.dK s1))
    · exact kit_of I rx (.fDict s1)
  | ins c fs =>
    rw [q] at ek
    cases ek
    obtain ⟨a, dx, fs', rfl, ea, _⟩ := R.insAt hp q
    have hc : ∃ l, clsOk G false c = some l := by
      cases t with
      | ty m =>
        have et : (if tkinds.contains m then (clsOk G false c).map fun _ => false else none) = some b := et
        split at et
        · obtain ⟨l, hl, _⟩ := Option.map_eq_some_iff.mp et
          exact ⟨l, hl⟩
        · cases et
      | cls d =>
        have et : ((clsOk G false c).map fun l => l.contains d) = some b := et
        obtain ⟨l, hl, _⟩ := Option.map_eq_some_iff.mp et
        exact ⟨l, hl⟩
      | _ => cases et
    obtain ⟨l, hl⟩ := hc
    have F := hO.1 c l hl
    exact kit_of I rx (.base (.ins ea F.cl F.ha F.hn F.ht F.hm))
  | exc c fs =>
    rw [q] at ek
    cases ek
    have hc : ∃ l, clsOk G true c = some l := by
      cases t with
      | ty m =>
        have et : (if tkinds.contains m then (clsOk G true c).map fun _ => false else if xkinds.contains m then (clsOk G true c).map fun _ => true else none) = some b := et
        split at et
        · obtain ⟨l, hl, _⟩ := Option.map_eq_some_iff.mp et
          exact ⟨l, hl⟩
        · split at et
          · obtain ⟨l, hl, _⟩ := Option.map_eq_some_iff.mp et
            exact ⟨l, hl⟩
          · cases et
      | cls d =>
        have et : ((clsOk G true c).map fun l => l.contains d) = some b := et
        obtain ⟨l, hl, _⟩ := Option.map_eq_some_iff.mp et
        exact ⟨l, hl⟩
      | _ => cases et
    obtain ⟨l, hl⟩ := hc
    have F := hO.2 c l hl
    have e0 : p = .exc c fs := rd_scal q rfl
    rw [e0] at hp
    have hp : RV g ρ M H (.exc c fs) x := hp
    unfold RV at hp
    obtain ⟨a, rfl, _, hh⟩ := hp
    cases (show u = Value.ref a from rx)
    rcases hh with ⟨_, ha⟩ | ⟨dx, fs', ha, hd, _, _⟩
    · obtain ⟨oe, vs, h1, hz, h2⟩ := xo_at I ha
      exact ⟨_, PySem.W.wt_kitExc (ox := oe) (od := none) F, ⟨h1, hz.1, by unfold PySem.W.notCls; rw [h2] <;> rfl, by rw [hz.2]; trivial⟩, fun z => nomatch z⟩
    · obtain ⟨oe, vs, h1, hz, h2⟩ := xo_at I ha
      have hx : ObjOk X.prog X.w H s.heap dx (.xd fs') := I.hok dx _ hd
      obtain ⟨mA, hns, hr⟩ := hx
      obtain ⟨od, ho, hlk⟩ := lookIn_ns hns
      exact ⟨_, PySem.W.wt_kitExc (ox := oe) (od := some od) F, ⟨h1, hz.1, by unfold PySem.W.notCls; rw [h2] <;> rfl, by rw [hz.2]; exact ho⟩, fun z => nomatch z⟩
  | _ => rw [q] at ek; cases ek
theorem isOf_kit {G : Glo} {p t : PV} {b : Bool} (h : isOf G M p t = some b) : ∃ k, vtOf (rd M p) = some k ∧ isVT G k t = some b := by
  unfold isOf at h
  cases q : vtOf (rd M p) with
  | none => rw [q] at h; cases h
  | some k => rw [q] at h; exact ⟨k, rfl, h⟩
theorem isAny_kit {G : Glo} {K : PySem.W.Frag} {p : PV} {k : VT} (ek : vtOf (rd M p) = some k) : ∀ {ts : List PV} {b : Bool}, (∀ t ∈ ts, KitF g G K t) → isAny G M p ts = some b → PySem.W.kitAny K (vtV g k) (ts.map (clU g)) = some b
  | [], b, _, h => h
  | t :: r, b, hF, h => by
    have h : ((isOf G M p t).bind fun b => if b then some true else isAny G M p r) = some b := h
    cases q : isOf G M p t with
    | none => rw [q] at h; cases h
    | some c =>
      rw [q] at h
      obtain ⟨k', e1, e2⟩ := isOf_kit q
      rw [ek] at e1
      cases e1
      have e3 := hF t List.mem_cons_self k c e2
      show (match PySem.W.kitOne K (vtV g k) (clU g t) with
        | some true => some true
        | some false => PySem.W.kitAny K (vtV g k) (r.map (clU g))
        | none => none) = some b
      rw [e3]
      cases c with
      | true => exact h
      | false => exact isAny_kit ek (fun t ht => hF t (List.mem_cons_of_mem _ ht)) h
/-- isinstance, by values -/
def rIs1 (g : Gx) (G : Glo) : List V → Hp → VK → Prop := fun vs H Q => ∃ ρ M ε T σ p x t b, vs = [x, clV g t] ∧ (∀ u, RelV (clV g t) u → u = clU g t) ∧ KitF g G g.K t ∧ Rl g ρ M H ε T σ ∧ RV g ρ M H p x ∧ isOf G M p t = some b ∧ Q (.bl b) H
theorem is_one {G : Glo} (hK : X.K = g.K) (hO : OwnF g G X.K) : CallR X (.builtin "isinstance") (rIs1 g G) := by
  intro pins s σ0 H vs us Q I r ⟨ρ, M, ε, T, σ, p, x, t, b, ev, hu, hF, R, hp, h, q⟩
  subst ev
  obtain ⟨u1, u2, rfl, r1, r2⟩ := vals2 r
  cases hu u2 r2
  obtain ⟨k, e1, e2⟩ := isOf_kit h
  obtain ⟨P, Z, z, hx⟩ := vt_kit hK hO I (R.blank σ0) hp r1 e1 e2
  exact PySem.W.kia_one Z I.kIn z (hK ▸ hF k b e2) hx fun tk => ⟨.bl b, H, I.tok tk, rfl, q⟩
theorem RelV.clU {t : PV} (h : (∃ c, t = .cls c) ∨ ∃ n, t = .ty n) {u : Value} (r : RelV (clV g t) u) : u = clU g t := by
  rcases h with ⟨c, rfl⟩ | ⟨n, rfl⟩ <;> exact r
theorem RV.clV {t : PV} (h : (∃ c, t = .cls c) ∨ ∃ n, t = .ty n) {v : V} (r : RV g ρ M H t v) : v = clV g t := by
  rcases h with ⟨c, rfl⟩ | ⟨n, rfl⟩ <;> (unfold RV at r; exact r)
theorem se_isi1 {G : Glo} {e1 e2 : Expr} {c1 : CE} {t : PV} {p0 pos : Pos} (hG : C.G = G) (hK : X.K = g.K) (hO : OwnF g G X.K) (hF : KitF g G g.K t) (ht : (∃ c, t = .cls c) ∨ ∃ n, t = .ty n) (hg : Gl X "isinstance") (hm : X.mg "isinstance" = none) (hv : bootBuiltins "isinstance" = some (.builtin "isinstance"))
    (h1 : SE g W C X e1 c1) (h2 : SE g W C X e2 (.glo t)) (hs1 : starEach [e1, e2] X.env = (false, eval e1 X.env) :: starEach [e2] X.env) (hs2 : starEach [e2] X.env = (false, eval e2 X.env) :: starEach [] X.env) (hpl : (backTo pos (starEach [e2] X.env)).any (·.1) = false) :
    SE g W C X (.Call (.Name "isinstance" p0) [e1, e2] [] pos) (.isi c1 [t] false) :=
  ⟨fun pins s σ H Q I ⟨ρ, M, ε, T, R, h⟩ => (pe_callB (p := p0) (pos := pos) (is_one hK hO) hg hm hv (pa_cons h1 (pa_cons h2 pa_nil hs2) hs1) (by decide) (by decide) hs1 hpl).run pins s σ H Q I (tR.of R h fun q ρ1 M1 H1 x R1 h1 => by
    refine ⟨ρ1, M1, ε, (q, x) :: T, R1, ?_⟩
    intro ρ2 H2 R2 v hv
    obtain ⟨b, eb, h3⟩ := ofOpt_ok (h1.more (T' := (q, x) :: T) fun q hq => List.mem_cons_of_mem _ hq)
    obtain ⟨b', eb', rfl⟩ := Option.map_eq_some_iff.mp eb
    have e1 : isOf C.G M1 q t = some b' := by
      have eb' : ((isOf C.G M1 q t).bind fun b => if b then some true else some false) = some b' := eb'
      cases z : isOf C.G M1 q t with
      | none => rw [z] at eb'; cases eb'
      | some c => rw [z] at eb'; cases c <;> (cases eb'; rfl)
    exact ⟨ρ2, M1, ε, (q, x) :: T, σ, q, x, t, b', by rw [RV.clV ht hv], fun u r => RelV.clU ht r, hF, R2, R2.head, hG ▸ e1, h3.ok R2 _ (.ofBl _)⟩)⟩
/-! ### a tuple of classes -/
def rIsM (g : Gx) (G : Glo) : List V → Hp → VK → Prop := fun vs H Q => ∃ ρ M ε T σ p x t ts b a, vs = [x, .ref a] ∧ SqT g.K H a ((t :: ts).map (clV g)) ∧ (∀ q ∈ t :: ts, KitF g G g.K q) ∧ (∀ q ∈ t :: ts, ∀ u, RelV (clV g q) u → u = clU g q) ∧ Rl g ρ M H ε T σ ∧ RV g ρ M H p x ∧ isAny G M p (t :: ts) = some b ∧ Q (.bl b) H
theorem clVs_U : ∀ {ts : List PV} {us : List Value}, (∀ q ∈ ts, ∀ u, RelV (clV g q) u → u = clU g q) → Vals (ts.map (clV g)) us → us = ts.map (clU g)
  | [], _, _, .nil => rfl
  | t :: r, _, h, .cons q k => by
    rw [h t List.mem_cons_self _ q, clVs_U (fun p hp => h p (List.mem_cons_of_mem _ hp)) k]
    rfl
theorem is_many {G : Glo} (hK : X.K = g.K) (hO : OwnF g G X.K) : CallR X (.builtin "isinstance") (rIsM g G) := by
  intro pins s σ0 H vs us Q I r ⟨ρ, M, ε, T, σ, p, x, t, ts, b, a, ev, ht, hF, hu, R, hp, h, q⟩
  subst ev
  obtain ⟨u1, u2, rfl, r1, r2⟩ := vals2 r
  cases (show u2 = Value.ref a from r2)
  obtain ⟨its, rv, ⟨o, ho, hc, n, hd⟩, _⟩ := I.tuple (hK.symm ▸ ht)
  have e := clVs_U hu rv
  subst e
  obtain ⟨oc, od, dt, sl⟩ := o
  have hc : oc = .type "tuple" := hc
  have hd : dt = .seq ((t :: ts).map (clU g)).toArray n := hd
  subst hc hd
  have h0 : ((isOf G M p t).bind fun b => if b then some true else isAny G M p ts) = some b := h
  obtain ⟨b0, e0, _⟩ := Option.bind_eq_some_iff.mp h0
  obtain ⟨k, e1, e2⟩ := isOf_kit e0
  obtain ⟨P, Z, z, hx⟩ := vt_kit hK hO I (R.blank σ0) hp r1 e1 e2
  exact PySem.W.kia_tup Z I.kIn z ho (isAny_kit e1 (fun q hq => hK.symm ▸ hF q hq) h) hx fun tk => ⟨.bl b, H, I.tok tk, rfl, q⟩
theorem ev_glos {ε : WT.Env} {M : Mem} : ∀ {ts : List PV}, evs C (ts.map .glo) ε M = .ok ts M
  | [] => rfl
  | t :: r => by
    show (Res.bind (.ok t M) fun v M => (evs C (r.map .glo) ε M).bind fun vs M => .ok (v :: vs) M) = _
    show (evs C (r.map .glo) ε M).bind (fun vs M => .ok (t :: vs) M) = _
    rw [ev_glos]
    rfl
theorem RVs.clV : ∀ {ts : List PV} {vs : List V}, (∀ t ∈ ts, (∃ c, t = .cls c) ∨ ∃ n, t = .ty n) → RVs g ρ M H ts vs → vs = ts.map (clV g)
  | [], _, _, h => by unfold RVs at h; exact h
  | t :: r, _, ht, h => by
    unfold RVs at h
    obtain ⟨v, s, rfl, h1, h2⟩ := h
    rw [RV.clV (ht t List.mem_cons_self) h1, RVs.clV (fun q hq => ht q (List.mem_cons_of_mem _ hq)) h2]
    rfl
theorem se_isiM {G : Glo} {e1 e2 : Expr} {c1 : CE} {t : PV} {ts : List PV} {p0 pos : Pos} (hG : C.G = G) (hK : X.K = g.K) (hO : OwnF g G X.K) (hF : ∀ q ∈ t :: ts, KitF g G g.K q) (ht : ∀ q ∈ t :: ts, (∃ c, q = .cls c) ∨ ∃ n, q = .ty n) (hg : Gl X "isinstance") (hm : X.mg "isinstance" = none) (hv : bootBuiltins "isinstance" = some (.builtin "isinstance"))
    (h1 : SE g W C X e1 c1) (h2 : SE g W C X e2 (.tup ((t :: ts).map .glo))) (hs1 : starEach [e1, e2] X.env = (false, eval e1 X.env) :: starEach [e2] X.env) (hs2 : starEach [e2] X.env = (false, eval e2 X.env) :: starEach [] X.env) (hpl : (backTo pos (starEach [e2] X.env)).any (·.1) = false) :
    SE g W C X (.Call (.Name "isinstance" p0) [e1, e2] [] pos) (.isi c1 (t :: ts) true) :=
  ⟨fun pins s σ H Q I ⟨ρ, M, ε, T, R, h⟩ => (pe_callB (p := p0) (pos := pos) (is_many hK hO) hg hm hv (pa_cons h1 (pa_cons h2 pa_nil hs2) hs1) (by decide) (by decide) hs1 hpl).run pins s σ H Q I (tR.of R h fun q ρ1 M1 H1 x R1 h1 => by
    refine ⟨ρ1, M1, ε, (q, x) :: T, R1, ?_⟩
    have ee : ev C (.tup ((t :: ts).map .glo)) ε M1 = .ok (.tup (t :: ts)) M1 := by
      show (evs C ((t :: ts).map .glo) ε M1).bind _ = _
      rw [ev_glos]
      rfl
    rw [ee]
    intro ρ2 H2 R2 v hv
    obtain ⟨b, eb, h3⟩ := ofOpt_ok (h1.more (T' := (q, x) :: T) fun q hq => List.mem_cons_of_mem _ hq)
    obtain ⟨b', eb', rfl⟩ := Option.map_eq_some_iff.mp eb
    obtain ⟨_, a, vs, rfl, t1, rr⟩ := hv.tupAt
    have ev := RVs.clV ht rr
    subst ev
    exact ⟨ρ2, M1, ε, (q, x) :: T, σ, q, x, t, ts, b', a, rfl, t1, hF, fun q hq u r => RelV.clU (ht q hq) r, R2, R2.head, hG ▸ eb', h3.ok R2 _ (.ofBl _)⟩)⟩
end
end WT
set_option maxRecDepth 100000
set_option autoImplicit false
/-! List comprehensions. -/
namespace WT
noncomputable section
open PySem PySem.Spec PyProof.Rows L2

def W0 : WX := fun _ _ _ _ => False
/-- a comprehension's tests -/
def tst (C : Ctx) (ifs : List CE) : WT.Env → Mem → Res Bool := fun ε M => match ifs with
  | [] => .ok true M
  | [c] => (ev C c ε M).test
  | _ => .stuck
theorem wipe_get {σ : SS} {j : Nat} : ∀ {vs : List Nat}, j ∉ vs → (wipe σ vs)[j]? = σ[j]?
  | [], _ => rfl
  | v :: vs, h => by
    unfold L2.wipe
    rw [List.getElem?_set_ne fun e => h (by rw [← e]; exact List.mem_cons_self)]
    exact wipe_get fun z => h (List.mem_cons_of_mem _ z)
theorem wipe_at {σ : SS} {j : Nat} : ∀ {vs : List Nat}, j ∈ vs → (wipe σ vs)[j]? = if j < σ.length then some none else none
  | [], h => by cases h
  | v :: vs, h => by
    unfold L2.wipe
    by_cases e : v = j
    · subst e
      by_cases l : v < σ.length
      · rw [List.getElem?_set_self (by rw [wipe_length]; exact l), if_pos l]
      · rw [List.getElem?_eq_none (by rw [List.length_set, wipe_length]; omega), if_neg l]
    · rw [List.getElem?_set_ne e]
      rcases List.mem_cons.mp h with z | z
      · exact absurd z.symm e
      · exact wipe_at z
theorem wipe_agr {σ σ' : SS} {js vs : List Nat} (a : Agr js (wipe σ vs) σ') (h : ∀ j ∈ js, j ∈ vs) : wipe σ' vs = wipe σ vs := by
  have hl : σ'.length = σ.length := a.1.trans (wipe_length σ vs)
  apply List.ext_getElem?
  intro j
  by_cases hj : j ∈ vs
  · rw [wipe_at hj, wipe_at hj, hl]
  · rw [wipe_get hj, a.2 j fun z => hj (h j z)]
section
variable {g : Gx} {W : WX} {ρ ρ1 : List Addr} {M M1 : Mem} {H H1 : Hp} {ε : WT.Env} {T T' : List (PV × V)} {σ : SS}
theorem Rl.withT (R : Rl g ρ M H ε T σ) (h : ∀ q ∈ T', RV g ρ M H q.1 q.2) : Rl g ρ M H ε T' σ := ⟨R.len, R.elen, R.env, h, R.cel, R.inj⟩
/-- what a frame's slots and temporaries are, told as temporaries -/
theorem Rl.allT (R : Rl g ρ M H ε T σ) : ∀ q ∈ slots ε σ ++ T, RV g ρ M H q.1 q.2 := R.pack.tmp
/-- behind a comprehension whose tree is handed out -/
theorem Rl.thaw (R0 : Rl g ρ M H ε T σ) (R : Rl g ρ1 M1 H1 ε T σ) {n : Nat} {D : Addr} {xs : List PV} (hn : ρ1[n]? = some D) (e : M1[n]? = some (.lst xs)) :
    ∃ ρ2, Rl g ρ2 (WT.fin M (.lst xs) (M1.set n .dead)).2 H1 ε T σ ∧ RV g ρ2 (WT.fin M (.lst xs) (M1.set n .dead)).2 H1 (.lst xs) (.ref D) := by
  obtain ⟨hz, vs, h1, h2⟩ := R.cel n D _ hn e
  have nd := dead_not_live R hn e (by simp)
  have Rd := R.dead hn
  have rv : RV g ρ1 (M1.set n .dead) H1 (.lst xs) (.ref D) := by
    unfold RV
    exact ⟨hz, D, vs, rfl, .of ⟨h1, nd⟩, RVs.later R.cells (Lat.dead hn) h2⟩
  obtain ⟨ρ2, R2, k⟩ := Rl.fin (p := .lst xs) R0.pack Rd.pack
  exact ⟨ρ2, R0.unpack R2, k _ rv⟩
end
section
variable {g : Gx} {W : WX} {C : Ctx} {X : Cx} {elt tg iter e : Expr} {ifs : List Expr} {scope : Scope} {own : List (Str × Nat)} {pos p : Pos} {t : CT} {ci : CI} {celt c : CE} {cifs : List CE} {m : Bool}
theorem pts0 : PTs X [] (tRt g W (tst C [])) := ⟨fun pins s σ H Q I ⟨ρ, M, ε, T, R, h⟩ => pts_nil.run pins s σ H Q I (h ρ H R)⟩
theorem pts1 (h : ST g W C X e c) : PTs X [e] (tRt g W (tst C [c])) := pts_one h
/-- the rest of a comprehension's loop -/
abbrev lcRest (C : Ctx) (own : List Nat) (t : CT) (celt : CE) (cifs : List CE) (m : Bool) (its : Items) (ε : WT.Env) (M1 : Mem) (r : List PV) (M : Mem) : Res PV :=
  (lcLoop own t (tst C cifs) (fun ε M => ev C celt ε M) its.2 ε M1.length r M).bind fun _ M' => lcEnd m M1 M'
theorem lc_ev {ε : WT.Env} {M : Mem} {own : List Nat} : ev C (.lc m own celt t ci cifs) ε M = (evi C ci ε M).bind fun its M => lcRest C own t celt cifs m its ε M its.1 (M ++ [.lst []]) := by
  match cifs with
  | [] => rfl
  | [c] => rfl
  | _ :: _ :: _ => rfl
theorem lc_reads {σ : SS} {own : List Nat} {H : Hp} {Q : VK} (hct : ∀ j ∈ ctS t, j ∈ own) (h : tR g W (ev C (.lc m own celt t ci cifs)) σ H Q) :
    tLc (tI g W (evi C ci)) (tG g t) (tRt g W0 (tst C cifs)) (tR g W0 (ev C celt)) own σ H Q := by
  obtain ⟨ρ, M, ε, T, R, h⟩ := h
  have h : resW g W ((evi C ci ε M).bind fun its M => lcRest C own t celt cifs m its ε M its.1 (M ++ [.lst []])) ε T σ (EndQ g Q) := by
    rw [← lc_ev]
    exact h
  refine ⟨ρ, M, ε, T, R, h.bind.imp fun its ρ1 M1 H1 R1 h1 J T' hT R1' rel D hD => ?_⟩
  have h1 := h1.more hT
  have Rn := R1'.new (c := .lst []) (o := .lst []) hD ⟨Nat.zero_le _, [], upd_same, .nil⟩
  have hn : (ρ1 ++ [D])[M1.length]? = some D := by rw [← R1'.len]; simp
  have refD : ∀ {ρ : List Addr} {M : Mem} {H : Hp}, ρ[M1.length]? = some D → RV g ρ M H (.ref M1.length) (.ref D) := fun h => by
    unfold RV
    exact ⟨D, rfl, h⟩
  have atD : ∀ {ρ : List Addr} {M : Mem} {H : Hp}, RV g ρ M H (.ref M1.length) (.ref D) → ρ[M1.length]? = some D := fun h => by
    unfold RV at h
    obtain ⟨a, e, h⟩ := h
    cases e
    exact h
  generalize hTb : (PV.ref M1.length, V.ref D) :: (slots ε σ ++ T') = Tb
  have mD : (PV.ref M1.length, V.ref D) ∈ Tb := hTb ▸ List.mem_cons_self
  have mS : ∀ q ∈ slots ε σ ++ T', q ∈ Tb := fun q hq => hTb ▸ List.mem_cons_of_mem _ hq
  have back : ∀ {ρ : List Addr} {M : Mem} {H : Hp}, Rl g ρ M H [] Tb [] → Rl g ρ M H ε T' σ := fun R => R1'.unpack (R.weak mS)
  have toB : ∀ {ρ : List Addr} {M : Mem} {H : Hp}, Rl g ρ M H ε T' σ → ρ[M1.length]? = some D → ∀ q ∈ Tb, RV g ρ M H q.1 q.2 := fun R hr q hq => by
    subst hTb
    rcases List.mem_cons.mp hq with rfl | hq
    · exact refD hr
    · exact R.allT q hq
  refine ⟨fun i k H => ∃ ρ M, Rl g ρ M H [] Tb [] ∧ i + k = its.1.length ∧ resW g W (lcRest C own t celt cifs m its ε M1 (its.1.drop i) M) ε T' σ (EndQ g Q),
    ⟨its.1.length, ρ1 ++ [D], M1 ++ [Cell.lst []], (Rn.withT (toB Rn hn)).blank [], by omega, h1⟩, fun i k H2 ⟨ρ2, M2, R2, hik, h2⟩ => ?_⟩
  have hD2 := atD (R2.tmp _ mD)
  have R2u := back R2
  by_cases hi : i < its.1.length
  · have ed : its.1.drop i = its.1[i] :: its.1.drop (i + 1) := List.drop_eq_getElem_cons hi
    rw [ed] at h2
    have h2 : resW g W ((match still its.2 M2, bindT t its.1[i] (wipeE ε own) M2 with
      | true, some ε1 => (match tst C cifs ε1 M2 with
        | .ok true M1' => (match ev C celt ε1 M1' with
          | .ok v M3 => (match M3[M1.length]? with
            | some (.lst acc) => (match decide (acc.length < sline) with
              | true => lcLoop own t (tst C cifs) (fun ε M => ev C celt ε M) its.2 ε M1.length (its.1.drop (i + 1)) (M3.set M1.length (.lst (acc ++ [v])))
              | false => .stuck)
            | _ => .stuck)
          | _ => .stuck)
        | .ok false M1' => lcLoop own t (tst C cifs) (fun ε M => ev C celt ε M) its.2 ε M1.length (its.1.drop (i + 1)) M1'
        | _ => .stuck)
      | _, _ => .stuck).bind fun _ M' => lcEnd m M1 M') ε T' σ (EndQ g Q) := h2
    split at h2
    · rename_i ε1 hst hbd
      obtain ⟨go, yl⟩ := rel.go i its.1[i] ρ2 M2 H2 ε σ R2u hst (List.getElem?_eq_getElem hi)
      refine .inr ⟨go, fun H' => ∃ ρ M, Rl g ρ M H' [] Tb [] ∧ resW g W (lcRest C own t celt cifs m its ε M1 (its.1.drop (i + 1)) M) ε T' σ (EndQ g Q), fun H' ⟨ρ, M, R, h⟩ => ⟨k - 1, by omega, ρ, M, R, by omega, h⟩, fun x H' hy => ?_⟩
      have R3 := yl x H' hy
      have R4 : Rl g ρ2 M2 H' (wipeE ε own) ((its.1[i], x) :: Tb) (wipe σ own) := (R3.wipe own).withT fun q hq => by
        rcases List.mem_cons.mp hq with rfl | hq
        · exact R3.head
        · exact toB R3.tail hD2 q hq
      refine ⟨ρ2, M2, _, _, its.1[i], ε1, R4, R4.head, hbd, fun σ2 R5 ag => ⟨wipe_agr ag hct, ρ2, M2, ε1, Tb, R5.tail, ?_⟩⟩
      cases e1 : tst C cifs ε1 M2 with
      | ok b M3 =>
        rw [e1] at h2
        intro ρ3 H3 R6
        cases b with
        | false => exact ⟨ρ3, M3, R6.blank [], h2⟩
        | true =>
          refine ⟨ρ3, M3, ε1, Tb, R6, ?_⟩
          cases e2 : ev C celt ε1 M3 with
          | ok v M4 =>
            simp only [e2] at h2
            intro ρ4 H4 R7 y hy
            split at h2
            · rename_i acc e3
              split at h2
              · rename_i hlt
                have hD4 := atD (R7.tmp _ mD)
                obtain ⟨hz, vs, k1, k2⟩ := R7.cel _ D _ hD4 e3
                have hlt : acc.length < sizeLine := by rw [← sline_eq]; exact of_decide_eq_true hlt
                obtain ⟨R8, _⟩ := put_lst R7 hD4 e3 (ys := acc ++ [v]) (us := vs ++ [y]) (by rw [List.length_append, List.length_singleton]; omega) (k2.append (.one hy))
                exact ⟨vs, k1, by rw [← k2.length]; exact hlt, ρ4, _, R8.blank [], h2⟩
              · exact h2.elim
            · exact h2.elim
          | err e M4 => simp only [e2] at h2; exact h2.elim
          | stuck => simp only [e2] at h2; exact h2.elim
      | err e M3 => rw [e1] at h2; exact h2.elim
      | stuck => rw [e1] at h2; exact h2.elim
    · exact h2.elim
  · have ed : its.1.drop i = [] := List.drop_eq_nil_of_le (by omega)
    rw [ed] at h2
    have h2 : resW g W ((match still its.2 M2 with
      | true => Res.ok () M2
      | false => .stuck).bind fun _ M' => lcEnd m M1 M') ε T' σ (EndQ g Q) := h2
    split at h2
    · rename_i hst
      refine .inl ⟨?_, ?_⟩
      · have ei : i = its.1.length := by omega
        rw [ei]
        exact rel.stop ρ2 M2 H2 ε σ R2u hst
      · have h2 : resW g W (lcEnd m M1 M2) ε T' σ (EndQ g Q) := h2
        cases m with
        | true => exact h2 ρ2 H2 R2u (.ref D) (refD hD2)
        | false =>
          have h2 : resW g W (match M2[M1.length]? with
            | some (.lst xs) => .ok (.lst xs) (WT.fin M1 (.lst xs) (M2.set M1.length .dead)).2
            | _ => .stuck) ε T' σ (EndQ g Q) := h2
          split at h2
          · rename_i xs e3
            obtain ⟨ρ5, R9, rv⟩ := Rl.thaw R1' R2u hD2 e3
            exact h2 ρ5 H2 R9 (.ref D) rv
          · exact h2.elim
    · exact h2.elim
theorem se_lc (hc : X.calm = true) (hN : X.N.Nodup) (hi : SI g W C X tg iter ci) (ok : BlkOk X.N X.env.scope scope own) (hct : ∀ j ∈ ctS t, j ∈ own.map (·.2))
    (hg : ∀ (s : Shared) (H : Hp) (D : Addr) (cl : List (Str × Addr)) (fp : List Addr), PG (X.blk s H scope (compEnvC scope cl D X.env) fp) tg (tG g t))
    (ht : ∀ (s : Shared) (H : Hp) (D : Addr) (cl : List (Str × Addr)) (fp : List Addr), PTs (X.blk s H scope (compEnvC scope cl D X.env) fp) ifs (tRt g W0 (tst C cifs)))
    (he : ∀ (s : Shared) (H : Hp) (D : Addr) (cl : List (Str × Addr)) (fp : List Addr), SE g W0 C (X.blk s H scope (compEnvC scope cl D X.env) fp) elt celt) (hs : ∀ x, foldedSetIterable iter X.env x = pure x) :
    SE g W C X (.ListComp elt [⟨tg, iter, ifs, 0⟩] scope pos) (.lc m (own.map (·.2)) celt t ci cifs) :=
  ⟨fun pins s σ H Q I h => (pe_lc hc hN hi ok hg ht he hs).run pins s σ H Q I (lc_reads hct h)⟩
/-- name = [..], on one line -/
theorem s_setLc {i : Nat} {y : Str} {py spos : Pos} (hc : X.calm = true) (hN : X.N.Nodup) (hy : X.N[i]? = some y) (hyl : X.env.scope.names.lookup y = some .local)
    (hsw : swapsWith (.ListComp elt [⟨tg, iter, ifs, 0⟩] scope pos) (some (.Name y py)) spos.line X.env = pure true) (hi : SI g W C X tg iter ci) (ok : BlkOk X.N X.env.scope scope own) (hct : ∀ j ∈ ctS t, j ∈ own.map (·.2))
    (hg : ∀ (s : Shared) (H : Hp) (D : Addr) (cl : List (Str × Addr)) (fp : List Addr), PG (X.blk s H scope (compEnvC scope cl D X.env) fp) tg (tG g t))
    (ht : ∀ (s : Shared) (H : Hp) (D : Addr) (cl : List (Str × Addr)) (fp : List Addr), PTs (X.blk s H scope (compEnvC scope cl D X.env) fp) ifs (tRt g W0 (tst C cifs)))
    (he : ∀ (s : Shared) (H : Hp) (D : Addr) (cl : List (Str × Addr)) (fp : List Addr), SE g W0 C (X.blk s H scope (compEnvC scope cl D X.env) fp) elt celt) (hs : ∀ x, foldedSetIterable iter X.env x = pure x) :
    SS1 g W C X (.Assign [.Name y py] (.ListComp elt [⟨tg, iter, ifs, 0⟩] scope pos) spos) (.asg (.nm i) (.lc m (own.map (·.2)) celt t ci cifs)) :=
  ⟨fun pins s σ H D I ⟨ρ, M, ε, T, R, h⟩ => (ps_setLc (i := i) hc hN hy hyl hsw hi ok hg ht he hs).run pins s σ H D I (lc_reads hct ⟨ρ, M, ε, T, R, (outW.res h σ).imp fun p ρ1 M1 H1 R1 h1 v rv => h1 ρ1 H1 _ (R1.set rv)⟩)⟩
end
end
end WT
set_option maxRecDepth 100000
set_option autoImplicit false
/-! Dict displays. -/
namespace WT
noncomputable section
open PySem PySem.Spec PyProof.Rows L2

def flatC : List (CE × CE) → List CE
  | [] => []
  | (a, b) :: r => a :: b :: flatC r
def flatV : List (V × V) → List V
  | [] => []
  | (a, b) :: r => a :: b :: flatV r
section
variable {g : Gx} {W : WX} {C : Ctx} {X : Cx} {ε : WT.Env} {σ : SS} {ρ : List Addr} {M : Mem} {H : Hp} {T : List (PV × V)}
abbrev trC (g : Gx) (W : WX) (C : Ctx) (ces : List (CE × CE)) : List (TE × TE) := ces.map fun q => (tR g W (ev C q.1), tR g W (ev C q.2))
theorem tR.of0 {T0 : List (PV × V)} {k : PV → Mem → Res PV} {f : WT.Env → Mem → Res PV} {Q : VK} {A : PV → List Addr → Mem → Hp → Prop} (R : Rl g ρ M H ε T σ) (hs : ∀ q ∈ T0, q ∈ T) (h : resW g W ((f ε M).bind k) ε T0 σ A)
    (hk : ∀ p ρ M H v, Rl g ρ M H ε ((p, v) :: T) σ → resW g W (k p M) ε T0 σ A → Q v H) : tR g W f σ H Q :=
  ⟨ρ, M, ε, T, R, (h.bind.more hs).imp fun p ρ M H R' h' v rv => hk p ρ M H v (R'.push rv) h'⟩
theorem tPairs_of {A : PV → List Addr → Mem → Hp → Prop} {Q : List (V × V) → Hp → Prop} {T0 : List (PV × V)} : ∀ (ces : List (CE × CE)) (ρ : List Addr) (M : Mem) (H : Hp) (T : List (PV × V)) (k : List PV → Mem → Res PV), (∀ q ∈ T0, q ∈ T) → Rl g ρ M H ε T σ → resW g W ((evs C (flatC ces) ε M).bind k) ε T0 σ A →
    (∀ ps ρ1 M1 H1 vs T1, (∀ q ∈ T, q ∈ T1) → Rl g ρ1 M1 H1 ε T1 σ → RVs g ρ1 M1 H1 ps (flatV vs) → resW g W (k ps M1) ε T0 σ A → Q vs H1) → tPairs (trC g W C ces) σ H Q
  | [], ρ, M, H, T, k, _, R, h, hk => hk [] ρ M H [] T (fun _ z => z) R .nil h
  | (a, b) :: r, ρ, M, H, T, k, hs, R, h, hk => by
    have e : (evs C (flatC ((a, b) :: r)) ε M).bind k = (ev C a ε M).bind fun x M => (ev C b ε M).bind fun y M => (evs C (flatC r) ε M).bind fun zs M => k (x :: y :: zs) M := by
      show ((ev C a ε M).bind fun x M => ((ev C b ε M).bind fun y M => (evs C (flatC r) ε M).bind fun zs M => .ok (y :: zs) M).bind fun vs M => .ok (x :: vs) M).bind k = _
      rw [bind_bind]
      congr 1
      funext x M1
      rw [bind_bind, bind_bind]
      congr 1
      funext y M2
      rw [bind_bind]
      rfl
    rw [e] at h
    refine tR.of0 R hs h fun x ρ1 M1 H1 v R1 h1 => tR.of0 R1 (fun q hq => List.mem_cons_of_mem _ (hs q hq)) h1 fun y ρ2 M2 H2 u R2 h2 => ?_
    refine tPairs_of r ρ2 M2 H2 _ (fun zs M => k (x :: y :: zs) M) (fun q hq => List.mem_cons_of_mem _ (List.mem_cons_of_mem _ (hs q hq))) R2 h2 fun ps ρ3 M3 H3 vs T3 hT R3 rv h3 => ?_
    exact hk (x :: y :: ps) ρ3 M3 H3 ((v, u) :: vs) T3 (fun q hq => hT q (List.mem_cons_of_mem _ (List.mem_cons_of_mem _ hq))) R3 (.cons (R3.tmp (x, v) (hT _ (List.mem_cons_of_mem _ List.mem_cons_self))) (.cons (R3.tmp (y, u) (hT _ List.mem_cons_self)) rv)) h3
theorem pairUp_of : ∀ {ps : List PV} {kvs : List (PV × PV)} {vs : List (V × V)}, pairUp ps = some kvs → RVs g ρ M H ps (flatV vs) → ∃ kws : List (Key × V), vs = kws.map (fun kv => (kV kv.1, kv.2)) ∧ RVd g ρ M H kvs kws ∧ kws.length = kvs.length
  | [], kvs, [], e, _ => by
    cases e
    exact ⟨[], rfl, by unfold RVd; rfl, rfl⟩
  | [], kvs, (a, b) :: r, e, h => by
    unfold RVs at h
    cases h
  | [_], kvs, vs, e, _ => by cases e
  | k :: v :: ps, kvs, [], e, h => by
    unfold RVs at h
    obtain ⟨_, _, h, _⟩ := h
    cases h
  | k :: v :: ps, kvs, (x, y) :: vs, e, h => by
    unfold RVs at h
    obtain ⟨x', s1, ez, hx, h⟩ := h
    cases ez
    unfold RVs at h
    obtain ⟨y', s2, ez, hy, h⟩ := h
    cases ez
    have e : (match isKey k with
      | true => (pairUp ps).map fun l => (k, v) :: l
      | false => none) = some kvs := e
    split at e
    · rename_i hk
      obtain ⟨l, el, rfl⟩ := Option.map_eq_some_iff.mp e
      obtain ⟨kws, rfl, hd, hl⟩ := pairUp_of el h
      have kk : ∃ j : Key, k = kPV j ∧ x = kV j := by
        cases k with
        | int i => exact ⟨.inl i, rfl, hx.int⟩
        | str z => exact ⟨.inr z, rfl, hx.str.1⟩
        | _ => cases hk
      obtain ⟨j, rfl, rfl⟩ := kk
      refine ⟨(j, y) :: kws, rfl, ?_, by simp [hl]⟩
      unfold RVd
      exact ⟨j, y, kws, rfl, rfl, hy, hd⟩
    · cases e
theorem RVd.merge : ∀ {kvs acc : List (PV × PV)} {kws accV : List (Key × V)}, RVd g ρ M H kvs kws → RVd g ρ M H acc accV → RVd g ρ M H (mergeP acc kvs) (mergeK accV kws)
  | [], acc, kws, accV, h, k => by
    unfold RVd at h
    subst h
    exact k
  | (a, b) :: r, acc, kws, accV, h, k => by
    unfold RVd at h
    obtain ⟨j, v, s, rfl, rfl, h1, h2⟩ := h
    show RVd g ρ M H (mergeP (putKV (kPV j) b acc) r) (mergeK (putK accV j v) s)
    exact RVd.merge h2 (k.put h1)
theorem mergeP_len : ∀ (kvs acc : List (PV × PV)), (mergeP acc kvs).length ≤ acc.length + kvs.length
  | [], acc => by show acc.length ≤ acc.length + 0; omega
  | (k, v) :: r, acc => by
    have h1 := mergeP_len r (putKV k v acc)
    have h2 : (putKV k v acc).length ≤ acc.length + 1 := by
      unfold putKV
      split
      · rw [List.length_map]; omega
      · rw [List.length_append]; simp
    show (mergeP (putKV k v acc) r).length ≤ _
    rw [List.length_cons]
    omega
/-- a dict's cell, handed out as a tree -/
theorem Rl.thawD {ρ1 : List Addr} {M1 : Mem} {H1 : Hp} (R0 : Rl g ρ M H ε T σ) (R : Rl g ρ1 M1 H1 ε T σ) {n : Nat} {D : Addr} {kvs : List (PV × PV)} (hn : ρ1[n]? = some D) (e : M1[n]? = some (.dic kvs)) :
    ∃ ρ2, Rl g ρ2 (WT.fin M (.dic kvs) (M1.set n .dead)).2 H1 ε T σ ∧ RV g ρ2 (WT.fin M (.dic kvs) (M1.set n .dead)).2 H1 (.dic kvs) (.ref D) := by
  obtain ⟨hz, vs, h1, h2⟩ := R.cel n D _ hn e
  have nd := dead_not_live R hn e (by simp)
  have rv : RV g ρ1 (M1.set n .dead) H1 (.dic kvs) (.ref D) := by
    unfold RV
    exact ⟨hz, D, vs, rfl, .of ⟨h1, nd⟩, RVd.later R.cells (Lat.dead hn) h2⟩
  obtain ⟨ρ2, R2, k⟩ := Rl.fin (p := .dic kvs) R0.pack (R.dead hn).pack
  exact ⟨ρ2, R0.unpack R2, k _ rv⟩
theorem se_dic {m : Bool} {keys : List (Option Expr)} {values : List Expr} {pos : Pos} {ces : List (CE × CE)} {xs : List CE} (hp : PPs X pos keys values (trC g W C ces)) (hall : keys.all (·.isSome) = true) (hl : keys.length = values.length) (h0 : keys ≠ []) (h15 : keys.length ≤ 15) (hc : ces.isEmpty = false) :
    SE g W C X (.Dict keys values pos) (.dic m (flatC ces) xs) :=
  ⟨fun pins s σ H Q I ⟨ρ, M, ε, T, R, h⟩ => (pe_disp hp hall hl h0 h15).run pins s σ H Q I fun D hD => by
    have ne : (flatC ces).isEmpty = false := by
      cases ces with
      | nil => cases hc
      | cons a r => obtain ⟨x, y⟩ := a; rfl
    have h : resW g W (match (flatC ces).isEmpty with
      | true => (match m with
        | true => Res.ok (.ref M.length) (M ++ [Cell.dic []])
        | false => Res.ok (.dic []) M)
      | false => (evs C (flatC ces) ε (M ++ [.dic []])).bind fun ps M1 => dicEnd m M ps M1) ε T σ (EndQ g Q) := h
    rw [ne] at h
    have h : resW g W ((evs C (flatC ces) ε (M ++ [.dic []])).bind fun ps M1 => dicEnd m M ps M1) ε T σ (EndQ g Q) := h
    have Rn := R.new (c := .dic []) (o := .dK []) hD ⟨Nat.zero_le _, [], upd_same, by unfold RVd; rfl⟩
    have hn : (ρ ++ [D])[M.length]? = some D := by rw [← R.len]; simp
    have rD : RV g (ρ ++ [D]) (M ++ [Cell.dic []]) (upd H D (.dK [])) (.ref M.length) (.ref D) := by
      unfold RV
      exact ⟨D, rfl, hn⟩
    refine tPairs_of (T0 := T) ces _ _ _ _ _ (fun q hq => List.mem_cons_of_mem _ hq) (Rn.push rD) h fun ps ρ1 M1 H1 vs T1 hT R1 rv h1 => ?_
    have hD1 : ρ1[M.length]? = some D := by
      have z := R1.tmp _ (hT _ List.mem_cons_self)
      unfold RV at z
      obtain ⟨a, ea, z⟩ := z
      cases ea
      exact z
    have h1 : resW g W (match pairUp ps, M1[M.length]? with
      | some kvs, some (.dic []) => (match decide (kvs.length ≤ 15) with
        | true => dicOut m M (mergeP [] kvs) (M1.set M.length (.dic (mergeP [] kvs)))
        | false => .stuck)
      | _, _ => .stuck) ε T σ (EndQ g Q) := h1
    split at h1
    · rename_i kvs ek em
      split at h1
      · rename_i hle
        have hle : kvs.length ≤ 15 := of_decide_eq_true hle
        obtain ⟨kws, rfl, rd, hlk⟩ := pairUp_of ek rv
        obtain ⟨_, kw0, hH, r0⟩ := R1.cel _ D _ hD1 em
        have e0 : kw0 = [] := by unfold RVd at r0; exact r0
        subst e0
        have hlen : (mergeP [] kvs).length ≤ sizeLine := by
          have := mergeP_len kvs []
          rw [List.length_nil] at this
          rw [sizeLine_eq]
          omega
        have l : Lat ρ1 M1 H1 ρ1 (M1.set M.length (.dic (mergeP [] kvs))) (upd H1 D (.dK (mergeK [] kws))) := Lat.put hD1 em (fun z => nomatch z)
        have R2 := R1.put (c' := .dic (mergeP [] kvs)) (o := .dK (mergeK [] kws)) hD1 em (fun z => nomatch z) ⟨hlen, _, upd_same, RVd.later R1.cells l (RVd.merge rd (by unfold RVd; rfl))⟩
        refine ⟨hH, kws, rfl, by rw [hlk]; exact hle, ?_⟩
        have sub : ∀ q ∈ T, q ∈ T1 := fun q hq => hT q (List.mem_cons_of_mem _ hq)
        have R3 := R2.weak sub
        cases m with
        | true =>
          have h1 : resW g W (.ok (.ref M.length) (M1.set M.length (.dic (mergeP [] kvs))) : Res PV) ε T σ (EndQ g Q) := h1
          refine h1 ρ1 _ R3 (.ref D) ?_
          unfold RV
          exact ⟨D, rfl, hD1⟩
        | false =>
          have h1 : resW g W (.ok (.dic (mergeP [] kvs)) (WT.fin M (.dic (mergeP [] kvs)) ((M1.set M.length (.dic (mergeP [] kvs))).set M.length .dead)).2 : Res PV) ε T σ (EndQ g Q) := h1
          have hlt : M.length < M1.length := by
            have := (List.getElem?_eq_some_iff.mp em).1
            exact this
          obtain ⟨ρ5, R5, rv5⟩ := Rl.thawD R R3 hD1 (List.getElem?_set_self hlt)
          exact h1 ρ5 _ R5 (.ref D) rv5
      · exact h1.elim
    · exact h1.elim⟩
end
end
end WT
set_option maxRecDepth 100000
set_option autoImplicit false
/-! Own equality. -/
namespace WT
open PySem PySem.Spec PyProof.Rows L2

section
variable {prog : Program} {w : World} {A : Around} {E : Value → Shared → Prop} {s : Shared} {K : PySem.W.Frag} {x cl f : Addr} {ox : Obj} {od : Option Obj} {b tb : Value}
/-- a built-in slot, found at an instance's class and called -/
theorem slot_called {M : Model} {self : Value} {nm : Str} {id : String} {as : List Value} {Q : Option Value → Shared → Prop} (sp : PySem.W.Looks M s.heap (specialOf self nm) (some (.builtin id))) (hb : bindSpecial (.builtin id) self = pure (.builtin id, [self]))
    (hc : wpAny M A (PySem.call (.builtin id) ([self] ++ as)) (fun v s' => Q (some v) s') E s) : wpAny M A (callSpecialIfBound? self nm as) Q E s := by
  unfold callSpecialIfBound? bindSpecialIfBound?
  refine wpAny_holding (wpAny_bind (wpAny_bind (sp.here (wpAny_bind (wpAny_askSetting (wpAny_ite ?_))))))
  have last : wpAny M A ((PySem.call (.builtin id) ([self] ++ as)) >>= fun v => pure (some v)) Q E s := wpAny_bind (wpAny_mono hc (fun _ _ q => wpAny_pure q) fun _ _ q => q)

  split
  all_goals first
    | exact wpAny_bind (wpAny_of_eq hb (wpAny_pure (by exact last)))
    | exact wpAny_tryCatch (wpAny_bind (wpAny_of_eq hb (wpAny_pure (by exact last))))
theorem ne_own {Q : Value → Shared → Prop} (hu : A.units + 1 < cLine) (Y : K.In s.heap) (I : PySem.W.InstAt s.heap x ox cl od) (hb : PySem.W.Looks (model prog w) s.heap (typeOf b) tb) (hn : PySem.W.notFirst K cl tb = true)
    (hne : PySem.W.findIn K (.ref cl) "__ne__" = some (some (.builtin "object.__ne__"))) (ho : PySem.W.mroIn K cl (.type "object") = some true) (hs : PySem.W.findIn K (.ref cl) "__eq__" = some (some (.ref f))) (hf : PySem.W.isFn K (.ref f) = true)
    (h : wpAny (model prog w) A.in1 (PySem.call (.ref f) [.ref x, b]) (fun v s' => ∃ r, v = .bool r ∧ Q (.bool (!r)) s') E s) : wpAny (model prog w) A (richCompare .NotEq (.ref x) b) Q E s := by
  have sp : PySem.W.Looks (model prog w) s.heap (specialOf (.ref x) "__ne__") (some (.builtin "object.__ne__")) := by
    unfold specialOf
    exact I.type.andThen (PySem.W.looks_findIn Y hne)
  have inner : wpAny (model prog w) A.in1 (Builtin.«object.__ne__» ⟨[.ref x, b], []⟩) (fun fin s' => ∃ v, fin = .done (.ret v) ∧ (∃ r, v = .bool r ∧ Q (.bool r) s')) E s := by
    unfold Builtin.«object.__ne__»
    repeat (first
      | with_reducible refine wpAny_cRoomFor (show A.in1.units < cLine from hu) ?_
      | (refine wpAny_bind (m := callSpecialIfBound? (.ref x) (Str.ofString "__eq__") [b]) (PySem.W.ifBound_K Y I hs hf (wpAny_mono h (fun r s' hr => by
          obtain ⟨z, rfl, hq⟩ := hr
          repeat (first | exact ⟨_, rfl, _, rfl, hq⟩ | (refine wpAny_bind (m := truthy (.bool _)) (wpAny_truthy_bool ?_)) | wp_step)) fun _ _ e => e)))
      | wp_step)
  have one : wpAny (model prog w) A (tryCompare (.ref x) (cmpInfo .NotEq).2.1 b) (fun r s' => ∃ v, r = some v ∧ Q v s') E s := by
    unfold tryCompare
    refine wpAny_bind (slot_called (id := "object.__ne__") sp (PySem.F.cmp_object.ne.bind _) (wpAny_call (codeAny_call_builtin (Slot.plain PySem.F.cmp_object.ne) PySem.F.cmpEntry_ne (@PySem.W.check_slot (model prog w) _ _ s "object.__ne__" "object" "__ne__" (.ref x) [b] [] _ (by decide +kernel) (by decide +kernel) (I.type.andThen (PySem.W.looks_mroIn Y ho)) (PySem.F.cmpArgs_ne _ _) ?_))))
    refine wpAny_mono inner (fun fin s' z => ?_) fun _ _ z => z
    obtain ⟨v, rfl, r, rfl, q⟩ := z
    exact wpAny_pure ⟨_, rfl, q⟩
  unfold richCompare
  simp only [oneThing_ref]
  refine wpAny_holding (wpAny_bind (wpAny_cRoomFor (by omega) (wpAny_bind (I.type.here (wpAny_bind (hb.here ?_))))))
  by_cases q : (Value.ref cl != tb) = true
  · have e : PySem.W.subIn K tb (.ref cl) = some false := by
      rcases Bool.or_eq_true_iff.mp hn with e | e
      · rw [beq_iff_eq.mp e] at q; simp at q
      · exact beq_iff_eq.mp e
    rw [if_pos q]
    refine wpAny_bind ((PySem.W.looks_subIn Y e).here ?_)
    simp only [Bool.false_eq_true, if_false]
    exact wpAny_bind (wpAny_mono one (fun r s' ⟨v, e, hq⟩ => by subst e; exact wpAny_pure hq) fun _ _ e => e)
  · rw [if_neg q]
    refine wpAny_bind (wpAny_pure ?_)
    simp only [Bool.false_eq_true, if_false]
    exact wpAny_bind (wpAny_mono one (fun r s' ⟨v, e, hq⟩ => by subst e; exact wpAny_pure hq) fun _ _ e => e)
end
section
variable {g : Gx} {W : WX} {C : Ctx} {X : Cx}
/-- what the written part says of own equality -/
structure EqF (g : Gx) (C : Ctx) (X : Cx) : Prop where
  own : OwnF g C.G X.K
  eq : ∀ c f, C.G.eqs.lookup c = some f → PySem.W.findIn X.K (.ref (g.ca c)) "__eq__" = some (some (.ref (g.fa f))) ∧ PySem.W.findIn X.K (.ref (g.ca c)) "__ne__" = some (some (.builtin "object.__ne__")) ∧ PySem.W.mroIn X.K (g.ca c) (.type "object") = some true ∧ PySem.W.isFn X.K (.ref (g.fa f)) = true ∧
    (∀ k b, isVT C.G k (.ty "int") = some b → PySem.W.notFirst X.K (g.ca c) (vtV g k) = true) ∧ ∃ (k : Nat) (fd : FuncData) (ps : List Str), FnG X.prog X.w X.K X.mg X.base (L2.CX X.prog X.w) k (g.fa f) fd ps (spOf g C.call f) ∧ Room (k + 1) X.A ∧ GB X.K fd ps [none, none] []
theorem eqOwn_of (hK : X.K = g.K) (hu : X.A.units + 65 < cLine) (hgd : X.A.guards = some []) (F : EqF g C X) : EqOwn g X C W := by
  intro op p q ρ M H ε T σ pins s x y v u Q hop ⟨c, fs, ep⟩ I rx ry R hp hq h
  obtain ⟨a, dx, fs', rfl, ea, rf⟩ := R.insAt hp ep
  cases (show v = Value.ref a from rx)
  obtain ⟨mA, O, _, _, _, _⟩ := ins_get I.hok ea
  obtain ⟨od, J, _⟩ := O.look
  obtain ⟨m0, hF⟩ := I.fr
  have tyk : known C.G M q = true → ∃ k b, isVT C.G k (.ty "int") = some b ∧ PySem.W.Looks (model X.prog X.w) s.heap (typeOf u) (vtV g k) := fun hk => by
    unfold known at hk
    obtain ⟨b, hb⟩ := Option.isSome_iff_exists.mp hk
    obtain ⟨k, e1, e2⟩ := isOf_kit hb
    obtain ⟨P, Z, z, _⟩ := vt_kit hK F.own I R hq ry e1 e2
    exact ⟨k, b, e2, Z.ty _ _ I.kIn z⟩
  rcases hop with rfl | rfl
  · have h : resW g W (cmpEq C p q M) ε T σ (EndQ g Q) := h
    unfold cmpEq at h
    rw [ep] at h
    have h : resW g W (eqOwn C c p q M) ε T σ (EndQ g Q) := h
    unfold eqOwn at h
    split at h
    · rename_i f ef ek
      obtain ⟨k, b, e2, hb⟩ := tyk ek
      obtain ⟨hs, hne, hm, hf, hn, lv, fd, ps, G, hr, hbb⟩ := F.eq c f ef
      refine PySem.W.cmp_K (op := .Eq) (by omega) hF I.ok.mod.kin J hb (hn k b e2) hs hf ?_
      refine wpAny_mono (fn_run (E := WE (fun _ _ _ _ => False) σ) (kw := []) (pos := [.ref a, u]) (Q := Q) G (hr.mono (Nat.le_succ _)) hgd (hbb s [.ref a, u] [] I.kIn rfl rfl) (fun _ _ _ _ _ _ z => (cx_never z).elim) I (Paired.cons rx (Paired.cons ry .nil)) ⟨ρ, M, slots ε σ ++ T, [p, q], R.pack, .cons hp (.one hq), ?_⟩) (fun z s' hz => ?_) fun _ _ z => z
      · split at h
        · rename_i r M1 e4
          rw [e4]
          exact fun ρ3 H3 R3 z rz => h ρ3 H3 (R.unpack R3) z rz
        · exact h.elim
      · obtain ⟨z', H', I', rz, qz⟩ := hz
        exact SlX.cmpback rz ⟨z', H', I', rz, qz⟩
    · exact h.elim
  · have h : resW g W (cmpNe C p q M) ε T σ (EndQ g Q) := h
    unfold cmpNe at h
    rw [ep] at h
    have h : resW g W (neOwn C c p q M) ε T σ (EndQ g Q) := h
    unfold neOwn at h
    split at h
    · rename_i f ef ek
      obtain ⟨k, b, e2, hb⟩ := tyk ek
      obtain ⟨hs, hne, hm, hf, hn, lv, fd, ps, G, hr, hbb⟩ := F.eq c f ef
      refine ne_own (by omega) I.kIn J hb (hn k b e2) hne hm hs hf (wpAny_call (codeAny_mono (G.run X.A.in1 X.stack s H ⟨[.ref a, u], []⟩ [.ref a, u] [.ref a, y] (fun z H' => ∃ r, z = V.bl r ∧ Q (.bl (!r)) H') (fun _ _ _ => False) hr.in1 hgd I.env0.in1 (hbb s [.ref a, u] [] I.kIn rfl rfl) (Paired.cons rx (Paired.cons ry .nil)) ⟨ρ, M, slots ε σ ++ T, [p, q], R.pack, .cons hp (.one hq), ?_⟩) fun r s' hz => ?_))
      · split at h
        · rename_i r M1 e4
          rw [e4]
          intro ρ3 H3 R3 z rz
          have ez := rz.bl
          exact ⟨r, ez, h ρ3 H3 (R.unpack R3) _ (.ofBl _)⟩
        · exact h.elim
      · cases r with
        | error e => exact ((cx_never hz)).elim
        | ok fl => cases fl with
          | ret z =>
            obtain ⟨z', H', I', rz, r, ez, qz⟩ := I.after hz
            subst ez
            exact ⟨r, rz, .bl (!r), H', I', rfl, qz⟩
          | _ => exact False.elim hz
    · exact h.elim
end
end WT
set_option maxRecDepth 100000
set_option autoImplicit false
/-! What the top leaves: defs by paths, one Bool of facts. -/
namespace WT
noncomputable section
open PySem PySem.Spec PyProof.Rows L2

/-! ### paths -/
def adG (x : Str) (K : PySem.W.Frag) : Addr := He.ga K x
def adM (c m : Str) (K : PySem.W.Frag) : Addr := He.ma K (He.ga K c) m
/-- a property's getter -/
def adP (c m : Str) (K : PySem.W.Frag) : Addr := match PySem.W.recIn K (He.ma K (He.ga K c) m) "property" with
  | some (.ref a :: _) => a
  | _ => 0
structure DefE where
  ad : PySem.W.Frag → Addr
  name : Str
  qual : Str
  params : Arguments
  body : List Stmt
  scope : Scope
  dfl : List He.Dv := []
  kwd : List (Str × He.Dv) := []
def fnA (K : PySem.W.Frag) (a : Addr) : He.FnW := match K.lookup a with
  | some ⟨_, _, .func fd, _⟩ => some (fd.name, fd.qualname, fd.params, fd.body, fd.scope, fd.globals, fd.closure, fd.builtins)
  | _ => none
def DefE.val (d : DefE) : He.FnW := some (d.name, d.qual, d.params, .stmts d.body, d.scope, mainGlobals, [], builtinsNs)
def DefE.dvs (K : PySem.W.Frag) (d : DefE) : List V := d.dfl.map (He.Dv.v K)
def DefE.kws (K : PySem.W.Frag) (d : DefE) : List (Str × V) := d.kwd.map fun q => (q.1, q.2.v K)
def DefE.ok (K : PySem.W.Frag) (d : DefE) : Bool := PySem.W.keepIn K (.ref (d.ad K)) && (match K.lookup (d.ad K) with
  | some ⟨_, _, .func fd, _⟩ => PySem.W.codeIn K fd.code d.qual && (He.dflB K fd.defaults (d.dvs K) && He.kwdB K fd.kwdefaults (d.kws K))
  | _ => false)
abbrev DefE.Is (K : PySem.W.Frag) (d : DefE) (fd : FuncData) : Prop := FunD K d.name d.qual d.params d.body d.scope (d.dvs K) (d.kws K) (d.ad K) fd
theorem DefE.is {K : PySem.W.Frag} {d : DefE} (e : fnA K (d.ad K) = d.val) (c : d.ok K = true) : ∃ fd, d.Is K fd := by
  unfold DefE.ok at c
  unfold fnA at e
  rw [Bool.and_eq_true] at c
  obtain ⟨kp, c2⟩ := c
  cases q : K.lookup (d.ad K) with
  | none => rw [q] at c2; cases c2
  | some o =>
    obtain ⟨oc, od, dt, osl⟩ := o
    rw [q] at c2 e
    cases dt with
    | func fd =>
      obtain ⟨z1, z2, z3, z4, z5, z6, z7, z8, z9, z10, z11, z12, z13, z14, z15⟩ := fd
      have e2 : (some (z1, z2, z3, z4, z5, z6, z7, z15) : He.FnW) = some (d.name, d.qual, d.params, .stmts d.body, d.scope, mainGlobals, [], builtinsNs) := e
      have c3 : (PySem.W.codeIn K z13 d.qual && (He.dflB K z8 (d.dvs K) && He.kwdB K z9 (d.kws K))) = true := c2
      rw [Bool.and_eq_true, Bool.and_eq_true] at c3
      simp only [Option.some.injEq, Prod.mk.injEq] at e2
      obtain ⟨h1, h2, h3, h4, h5, h6, h7, h8⟩ := e2
      subst h1 h2 h3 h4 h5 h6 h7 h8
      exact ⟨_, ⟨oc, od, z8, z9, z10, z11, z12, z13, z14, osl, rfl, q, c3.1, He.dflB_ok c3.2.1, He.kwdB_ok c3.2.2⟩, kp⟩
    | _ => cases c2

/-! ### the Hook -/
def obsW (fn : List DefE) (ex : PySem.W.Frag → Bool) (K : PySem.W.Frag) : He.AlD := (ex K && fn.all fun d => d.ok K, fn.map fun d => fnA K (d.ad K))
def valW (fn : List DefE) : He.AlD := (true, fn.map DefE.val)
def SaysW (fn : List DefE) (ex : PySem.W.Frag → Bool) (K : PySem.W.Frag) : Prop := obsW fn ex K = valW fn
def obsG (n : Nat) (fn : List DefE) (ex : PySem.W.Frag → Bool) (g : Addr → Option Obj) : He.AlD := obsW fn ex (He.frG g (cStatics :: He.asD g n))
def hookW (n : Nat) (fn : List DefE) (ex : PySem.W.Frag → Bool) : PySem.W.Hook where
  α := He.AlD
  obs s := obsG n fn ex s.heap.get?
  val _ := valW fn
  says _ h := ∃ K : PySem.W.Frag, K.In h ∧ SaysW fn ex K
  of _ _ e := ⟨_, He.frG_in, e⟩
  keeps _ _ _ := fun ⟨K, hK, c⟩ k => ⟨K, hK.keeps k, c⟩
theorem obsG_of {n : Nat} {fn : List DefE} {ex : PySem.W.Frag → Bool} (s : PySem.W.SharedT) : obsG n fn ex (HandSHeadRun.getT s) = (hookW n fn ex).obs s.abs :=
  congrArg (obsG n fn ex) (funext fun a => HandSHeadRun.getT_eq s a)
theorem SaysW.more {fn : List DefE} {ex : PySem.W.Frag → Bool} {K : PySem.W.Frag} (c : SaysW fn ex K) : ex K = true := (Bool.and_eq_true_iff.mp (show (ex K && fn.all fun d => d.ok K) = true from congrArg (fun z : He.AlD => z.1) c)).1
theorem SaysW.def_ {fn : List DefE} {ex : PySem.W.Frag → Bool} {K : PySem.W.Frag} (c : SaysW fn ex K) {i : Nat} {d : DefE} (h : fn[i]? = some d) : ∃ fd, d.Is K fd := by
  have c1 := (Bool.and_eq_true_iff.mp (show (ex K && fn.all fun d => d.ok K) = true from congrArg (fun z : He.AlD => z.1) c)).2
  have c2 : fn.map (fun d => fnA K (d.ad K)) = fn.map DefE.val := congrArg (fun z : He.AlD => z.2) c
  have c3 : (fn.map fun d => fnA K (d.ad K))[i]? = (fn.map DefE.val)[i]? := by rw [c2]
  rw [List.getElem?_map, List.getElem?_map, h] at c3
  exact DefE.is (Option.some.inj c3) (List.all_eq_true.mp c1 d (List.mem_of_getElem? h))

/-! ### the law is called -/
section
variable {P : Program} {w : World} {K : PySem.W.Frag} {mg mb : Str → Option Value} {k : Nat} {fa a : Addr} {fd : FuncData} {x : Str} {sp : Sp} {s1 : Shared} {vs : List Value} {ns : List Int}
/-- the script, as the heap has it -/
def scrO (vs : List Value) : Obj := { cls := .type "list", data := .seq vs.toArray }
/-- the law's call from a heap H in which at most the script is tracked -/
theorem law_from (KX : K.In s1.heap) (hns : s1.heap.Ns mainGlobals mg) (hb : s1.heap.Ns builtinsNs mb) (hbb : ∀ x : Str, x ≠ "__name__" → mb x = bootBuiltins x) (hlim : s1.heap.NoLimit) (hg : s1.gens = #[]) (ha : s1.heap.get? a = some (scrO vs)) (hr : Room k callerA)
    (F : ∀ base : Heap, K.In base → base.Ns mainGlobals mg → FnG P w K mg base (L2.CX P w) k fa fd [x] sp) (hbind : ∀ (s : Shared) (u : Value), BindsTo s fd ⟨[u], []⟩ [(x, u)])
    (H : Hp) (hO : ∀ b u, H b = some u → b = a ∧ u = .frz (scrO vs) (.lst (ns.map V.int))) (hok : HOk P w H s1.heap) (hK : H a ≠ none → K.lookup a = none) (hsp : sp [.ref a] H (fun v _ => v = .bl true) fun _ _ _ => False) :
    codeAny (model P w) callerA (.call (.ref fa) ⟨[.ref a], []⟩) (fun r s' => r = .ok (.ret (.bool true)) ∧ OldK s1.heap s'.heap ∧ s'.os = s1.os ∧ AllBare s'.gens) s1 := by
  have hid : ∀ {b : Addr} {o : Obj}, s1.heap.get? b = some o → H b = none → (hidT s1.heap H).get? b = some o := fun e n => hidT_get e n
  have tr : ∀ {b : Addr} {u : HO}, H b = some u → b = a := fun e => (hO _ _ e).1
  have dictN : ∀ {b : Addr} {o : Obj} {es : Array DictEntry} {ep : Nat}, s1.heap.get? b = some o → o.data = .dict es ep → H b = none := fun {b o es ep} e d => by
    cases q : H b with
    | none => rfl
    | some u =>
      have eb := tr q
      subst eb
      rw [ha] at e
      cases e
      cases (show Data.seq vs.toArray _ = Data.dict es ep from d)
  have nsH : ∀ {b : Addr} {m : Str → Option Value}, s1.heap.Ns b m → (hidT s1.heap H).Ns b m := fun {b m} ⟨o, es, ep, e, d, r⟩ => ⟨o, es, ep, hid e (dictN e d), d, r⟩
  have inH : K.In (hidT s1.heap H) := fun b o e => hid (KX b o e) (by
    cases q : H b with
    | none => rfl
    | some u =>
      have eb := tr q
      subst eb
      rw [hK (by rw [q]; exact fun z => nomatch z)] at e
      cases e)
  have hM : Mod K mg (hidT s1.heap H) := ⟨inH, nsH hns, ⟨mb, nsH hb, hbb⟩, hlim.elim fun mc h => ⟨mc, nsH h.1, h.2⟩⟩
  have e0 : Env0 P w K mg (hidT s1.heap H) callerA [] s1 H := ⟨rfl, hM, fun b o e => of_hidT e, Nat.le_of_eq (hidT_size _ _), trivial, fun b hb => absurd (show b ∈ ([] : List Addr) from hb) (by simp), hok, .of_eq hg⟩
  refine codeAny_mono ((F _ inH (nsH hns)).run callerA [] s1 H ⟨[.ref a], []⟩ [.ref a] [.ref a] _ _ hr (by first | rfl | decide) e0 (hbind s1 (.ref a)) (.cons rfl .nil) hsp) fun r s' h => ?_
  match r, h with
  | .error e, h => exact (cx_never h).elim
  | .ok .next, h => exact False.elim h
  | .ok .brk, h => exact False.elim h
  | .ok .cont, h => exact False.elim h
  | .ok (.ret u), ⟨v, H', os, bare, un, hok', rv, q⟩ =>
    have ev : v = .bl true := q
    subst ev
    obtain rfl : u = Value.bool true := rv
    refine ⟨rfl, OldK.of_keep fun b o e => ?_, os, bare⟩
    cases q2 : H b with
    | none => exact un.keep b o e q2 (fun z => absurd (show b ∈ ([] : List Addr) from z) (by simp)) (by simp)
    | some u2 =>
      obtain ⟨rfl, rfl⟩ := hO b u2 q2
      have z2 := un.frzs b _ _ q2
      obtain ⟨e1, _⟩ := hok b _ q2
      obtain ⟨e2, _⟩ := hok' b _ z2
      rw [e] at e1
      cases e1
      exact e2
theorem law_called (KX : K.In s1.heap) (hns : s1.heap.Ns mainGlobals mg) (hb : s1.heap.Ns builtinsNs mb) (hbb : ∀ x : Str, x ≠ "__name__" → mb x = bootBuiltins x) (hlim : s1.heap.NoLimit) (hg : s1.gens = #[]) (ha : s1.heap.get? a = some (scrO vs)) (hi : IntsAre vs ns) (hl : ns.length ≤ sizeLine) (hr : Room k callerA)
    (F : ∀ base : Heap, K.In base → base.Ns mainGlobals mg → FnG P w K mg base (L2.CX P w) k fa fd [x] sp) (hbind : ∀ (s : Shared) (u : Value), BindsTo s fd ⟨[u], []⟩ [(x, u)])
    (hsp : ∀ H : Hp, LO [] [] H K a (ns.map V.int) → sp [.ref a] H (fun v _ => v = .bl true) fun _ _ _ => False) :
    codeAny (model P w) callerA (.call (.ref fa) ⟨[.ref a], []⟩) (fun r s' => r = .ok (.ret (.bool true)) ∧ OldK s1.heap s'.heap ∧ s'.os = s1.os ∧ AllBare s'.gens) s1 := by
  have rv := vals_ints hi
  have lv := hi.length
  cases hk : K.lookup a with
  | some o =>
    have e := KX a o hk
    rw [ha] at e
    cases e
    exact law_from KX hns hb hbb hlim hg ha hr F hbind (ns := ns) (fun _ => none) (fun b u z => nomatch z) (fun b u z => nomatch z) (fun z => absurd rfl z) (hsp _ (.inr ⟨vs, _, hk, by omega, rv⟩))
  | none =>
    have at_ : ∀ b u, (if b = a then some (HO.frz (scrO vs) (.lst (ns.map V.int))) else none) = some u → b = a ∧ u = .frz (scrO vs) (.lst (ns.map V.int)) := fun b u z => by
      by_cases hba : b = a
      · rw [if_pos hba] at z
        exact ⟨hba, (Option.some.inj z).symm⟩
      · rw [if_neg hba] at z
        cases z
    refine law_from KX hns hb hbb hlim hg ha hr F hbind (ns := ns) (fun b => if b = a then some (.frz (scrO vs) (.lst (ns.map V.int))) else none) at_ (fun b u z => ?_) (fun _ => hk) (hsp _ (.inl ⟨_, ⟨if_pos rfl, fun ⟨i, c, h1, _⟩ => by simp at h1⟩, .inr ⟨_, rfl⟩⟩))
    obtain ⟨rfl, rfl⟩ := at_ b u z
    exact ⟨ha, by rw [List.length_map]; exact hl, vs, _, rv, ha⟩
/-- a law, from its def's promise -/
theorem walk_w {l : PySem.W.OpenLaw} {n k : Nat} {q : Program} {loose : List Str} {XP : (Str → Option Value) → Heap → Prop} {YP : World → Heap → Prop} {d : DefRec} {x : Str} (hn : l.most = some n) (hn2 : n ≤ sizeLine) (hdf : d.params.defaults = []) (hr : Room k callerA)
    (F : ∀ (w : World) (mg : Str → Option Value) (fa : Addr) (h : Heap), YP w h → h.Ns mainGlobals mg → mg d.name = some (.ref fa) → ∃ (K : PySem.W.Frag) (fd : FuncData) (sp : Sp), K.In h ∧ (∀ (s : Shared) (u : Value), BindsTo s fd ⟨[u], []⟩ [(x, u)]) ∧
      (∀ (H : Hp) (a : Addr) (ns : List Int), ns.length ≤ n → LO [] [] H K a (ns.map V.int) → sp [.ref a] H (fun v _ => v = .bl true) fun _ _ _ => False) ∧ ∀ base : Heap, K.In base → base.Ns mainGlobals mg → FnG l.prog w K mg base (L2.CX l.prog w) k fa fd [x] sp) :
    PySem.W.WalkO q loose XP YP l.row.toRowW d [] (fun f vs => PySem.call f vs) := by
  refine Att.attach_call hn hdf fun w s0 s1 mg mb fa o pm cd doc a vs ns G Y ho hd hcd hmg hobj hints hlen hg => ?_
  obtain ⟨K, fd, sp, KX, hb, hsp, hF⟩ := F w mg fa _ Y G.T.g hmg
  exact law_called KX G.T.g G.T.b G.T.builtins G.T.nolimit hg hobj hints (Nat.le_trans hlen hn2) hr hF hb fun H hO => hsp H a ns hlen hO
end
end
end WT
set_option maxRecDepth 100000
set_option autoImplicit false
/-! A program's tables: facts, contexts, rules with few premises. -/
namespace WT
noncomputable section
open PySem PySem.Spec PyProof.Rows L2

structure Def where
  E : DefE
  N : List Str
  ps : List Str
  d : FDef
structure Tb where
  G : Glo
  w : Nat
  nms : List Str
  cns : List Str
  defs : List Def
  /-- names of the module that hold objects; built-in names; constants -/
  glos : List Str
  frees : List Str
  cInt : List (Str × Int)
  cStr : List (Str × Str)
  /-- own classes; classes and their __init__ -/
  own : List Nat
  mks : List (Nat × Nat)
  /-- exception classes: without and with an __init__ -/
  xm : List Nat
  xv : List (Nat × Nat)
def Tb.gx (T : Tb) (K : PySem.W.Frag) : Gx := ⟨K, fun k => T.nms.getD k "?", fun c => He.ga K (T.cns.getD c "?"), fun f => match T.defs[f]? with
  | some D => D.E.ad K
  | none => 0⟩

/-! ### the facts, as one Bool -/
def insB (K : PySem.W.Frag) (a : Addr) : Bool := PySem.W.plainGet K a Str.empty && PySem.W.hasDictIn K a && PySem.W.plainOver K a && He.eqO (PySem.W.findIn K (.ref a) "__setattr__") (some (some (.builtin "object.__setattr__"))) &&
  He.eqO (PySem.W.findIn K (.ref a) "__class__") (some (some (.builtin "object.__class__"))) && He.eqO (PySem.W.specialIn K (.builtin "object.__class__") "__get__") (some (some (.builtin "getset_descriptor.__get__"))) &&
  decide (PySem.W.takesIn K (.builtin "object.__class__") = some true) && decide (PySem.W.mroIn K a (.type "object") = some true)
theorem insB_ok {K : PySem.W.Frag} {a : Addr} (h : insB K a = true) : InsF K a := by
  unfold insB at h
  simp only [Bool.and_eq_true] at h
  obtain ⟨⟨⟨⟨⟨⟨⟨h1, h2⟩, h3⟩, h4⟩, h5⟩, h6⟩, h7⟩, h8⟩ := h
  exact ⟨⟨h1, h2, h3, He.eqO_ok h4⟩, He.eqO_ok h5, He.eqO_ok h6, of_decide_eq_true h7, of_decide_eq_true h8⟩
def exB (K : PySem.W.Frag) (a : Addr) : Bool := He.eqO (PySem.W.findIn K (.ref a) "__getattribute__") (some (some (.builtin "BaseException.__getattribute__"))) && He.eqO (PySem.W.findIn K (.ref a) "__getattr__") (some none) &&
  decide (PySem.W.subIn K (.ref a) (.type "BaseException") = some true) && PySem.W.hasDictIn K a && He.eqO (PySem.W.findIn K (.ref a) "__class__") (some (some (.builtin "object.__class__"))) &&
  He.eqO (PySem.W.specialIn K (.builtin "object.__class__") "__get__") (some (some (.builtin "getset_descriptor.__get__"))) && decide (PySem.W.takesIn K (.builtin "object.__class__") = some true) && decide (PySem.W.mroIn K a (.type "object") = some true) &&
  PySem.W.keepIn K (.ref a) && decide (PySem.W.typeIn K (.ref a) = some (.type "type"))
structure ExF (K : PySem.W.Frag) (a : Addr) : Prop where
  c : ExcC K a
  kp : PySem.W.keepIn K (.ref a) = true
  ty : PySem.W.typeIn K (.ref a) = some (.type "type")
theorem exB_ok {K : PySem.W.Frag} {a : Addr} (h : exB K a = true) : ExF K a := by
  unfold exB at h
  simp only [Bool.and_eq_true] at h
  obtain ⟨⟨⟨⟨⟨⟨⟨⟨⟨h1, h2⟩, h3⟩, h4⟩, h5⟩, h6⟩, h7⟩, h8⟩, h9⟩, h10⟩ := h
  exact ⟨⟨He.eqO_ok h1, He.eqO_ok h2, of_decide_eq_true h3, h4, He.eqO_ok h5, He.eqO_ok h6, of_decide_eq_true h7, of_decide_eq_true h8⟩, h9, of_decide_eq_true h10⟩
/-- the class object of an exception with an own __init__ -/
def oexB (K : PySem.W.Frag) (a : Addr) : Bool := (match K.lookup a with
  | some ⟨.type "type", _, .cls cd, sl⟩ => (match cd.mro, sl.toList with
    | .ref a' :: bm, [_, _, _, _, some (.builtin n), _] => a' == a && (n == "ValueError.__new__" && (!cd.hasDel && (cd.hasDict && PySem.HandSPX.refsVE bm)))
    | _, _ => false)
  | _ => false) && He.eqO (PySem.W.findIn K (.ref a) "__setattr__") (some (some (.builtin "object.__setattr__")))
theorem oexB_ok {K : PySem.W.Frag} {a : Addr} (h : oexB K a = true) (x : ExF K a) : OexC K a := by
  unfold oexB at h
  rw [Bool.and_eq_true] at h
  obtain ⟨h, h2⟩ := h
  refine ⟨?_, He.eqO_ok h2, x.c.hs, x.ty, x.kp⟩
  split at h
  · rename_i dd cd sl ho
    split at h
    · rename_i a' bm k0 k1 k2 k3 n k5 hm hs
      simp only [Bool.and_eq_true, beq_iff_eq, Bool.not_eq_true'] at h
      obtain ⟨rfl, rfl, hdel, hd, hb⟩ := h
      obtain ⟨nm, bs, mro, ns, qn, hdc, sn, sub, ab, col, del⟩ := cd
      dsimp only at hm hdel hd
      subst hm hdel hd
      have hsl : sl = #[k0, k1, k2, k3, some (.builtin "ValueError.__new__"), k5] := by
        obtain ⟨l⟩ := sl
        simp only at hs
        rw [hs]
      subst hsl
      exact ⟨nm, qn, ns, bs, bm, sn, sub, ab, col, dd, k0, k1, k2, k3, k5, ho, hb⟩
    · cases h
  · cases h
def vts (T : Tb) : List VT := bkinds.map VT.bt ++ T.own.map VT.own ++ (T.xm ++ T.xv.map (·.1)).map VT.xc
def tys (T : Tb) : List PV := (tkinds ++ xkinds).map PV.ty ++ (T.own ++ T.xm ++ T.xv.map (·.1)).map PV.cls
def propB (K : PySem.W.Frag) (c : Addr) (m : Str) (f : Addr) : Bool := match PySem.W.findIn K (.ref c) m with
  | some (some (.ref p)) => He.eqO (PySem.W.specialIn K (.ref p) "__get__") (some (some (.builtin "property.__get__"))) && decide (PySem.W.takesIn K (.ref p) = some true) && (match PySem.W.recIn K p "property" with
    | some (.ref a :: _) => decide (a = f)
    | _ => false)
  | _ => false
theorem propB_ok {K : PySem.W.Frag} {c : Addr} {m : Str} {f : Addr} (h : propB K c m f = true) : ∃ p, PropOf K c m p f := by
  unfold propB at h
  split at h
  · rename_i p e
    rw [Bool.and_eq_true, Bool.and_eq_true] at h
    obtain ⟨⟨h1, h2⟩, h3⟩ := h
    split at h3
    · rename_i a r e3
      exact ⟨p, e, He.eqO_ok h1, of_decide_eq_true h2, r, by rw [← of_decide_eq_true h3]; exact e3⟩
    · cases h3
  · cases h
def methB (K : PySem.W.Frag) (c : Addr) (m : Str) (f : Addr) : Bool := He.eqO (PySem.W.findIn K (.ref c) m) (some (some (.ref f))) && PySem.W.isFn K (.ref f) && PySem.W.keepIn K (.ref f)
theorem methB_ok {K : PySem.W.Frag} {c : Addr} {m : Str} {f : Addr} (h : methB K c m f = true) : Meth K c m f := by
  unfold methB at h
  rw [Bool.and_eq_true, Bool.and_eq_true] at h
  exact ⟨He.eqO_ok h.1.1, h.1.2, h.2⟩
def mkB (K : PySem.W.Frag) (c f : Addr) : Bool := PySem.W.makesIn K c && He.eqO (PySem.W.findIn K (.ref c) "__init__") (some (some (.ref f))) && PySem.W.isFn K (.ref f) && PySem.W.keepIn K (.ref c)
theorem mkB_ok {K : PySem.W.Frag} {c f : Addr} (h : mkB K c f = true) : Mk K c f := by
  unfold mkB at h
  simp only [Bool.and_eq_true] at h
  exact ⟨h.1.1.1, He.eqO_ok h.1.1.2, h.1.2, h.2⟩
def eqB (T : Tb) (K : PySem.W.Frag) (c f : Addr) : Bool := He.eqO (PySem.W.findIn K (.ref c) "__eq__") (some (some (.ref f))) && He.eqO (PySem.W.findIn K (.ref c) "__ne__") (some (some (.builtin "object.__ne__"))) && PySem.W.isFn K (.ref f) && (vts T).all fun k => PySem.W.notFirst K c (vtV (T.gx K) k)
def kitB (T : Tb) (K : PySem.W.Frag) : Bool := (vts T).all fun k => (tys T).all fun t => match isVT T.G k t with
  | some b => decide (PySem.W.kitOne K (vtV (T.gx K) k) (clU (T.gx K) t) = some b)
  | none => true
/-- the class whose __init__ the exceptions call -/
def baseB (K : PySem.W.Frag) (b : Addr) : Bool := PySem.W.readsIn K b (.type "type") && He.eqO (PySem.W.specialIn K (.ref b) "__getattribute__") (some (some (.builtin "type.__getattribute__"))) && (match PySem.W.findCls K (.ref b) (.type "type") "__init__" with
  | some (.val (.builtin n)) => n == "ValueError.__init__"
  | _ => false)
theorem baseB_ok {K : PySem.W.Frag} {b : Addr} (h : baseB K b = true) : ClX.CRead K b (.type "type") ∧ PySem.W.findCls K (.ref b) (.type "type") "__init__" = some (.val (.builtin "ValueError.__init__")) := by
  unfold baseB at h
  rw [Bool.and_eq_true, Bool.and_eq_true] at h
  refine ⟨⟨h.1.1, He.eqO_ok h.1.2⟩, ?_⟩
  have h3 := h.2
  split at h3
  · rename_i n e
    rw [beq_iff_eq] at h3
    rw [e, h3]
  · cases h3
/-- own operators: what a class and a def must show -/
def shlB (K : PySem.W.Frag) (c : Addr) (t : String) : Bool := (PySem.W.findIn K (.type t) "__lshift__").isSome && ((PySem.W.findIn K (.type t) "__rlshift__").isSome && PySem.W.subIn K (.type t) (.ref c) == some false)
def opB (K : PySem.W.Frag) (c : Addr) (m : Str) (f : Addr) : Bool := PySem.W.noSeq K c && (PySem.W.selfFirst K c && (PySem.W.fnIn K f && (m != "__lshift__" || (He.eqO (PySem.W.findIn K (.ref c) "__rlshift__") (some none) &&
  (shlB K c "list" && shlB K c "tuple")))))
/-- a keyword's default, an object -/
def kwdAt (f : PySem.W.Frag → Addr) (x : Str) (K : PySem.W.Frag) : Addr := match K.lookup (f K) with
  | some ⟨_, _, .func fd, _⟩ => (match fd.kwdefaults with
    | .ref D => (match PySem.W.nsIn K D x with
      | some (some (.ref a)) => a
      | _ => 0)
    | _ => 0)
  | _ => 0
/-- .. the empty tuple -/
def tup0B (K : PySem.W.Frag) : V → Bool
  | .ref a => (match K.lookup a with
    | some ⟨.type t, _, .seq its _, _⟩ => t == "tuple" && its.toList.isEmpty
    | _ => false)
  | _ => true
def wdB (T : Tb) (K : PySem.W.Frag) : Bool :=
  let g := T.gx K
  T.glos.all (fun x => He.eqO (PySem.W.nsIn K mainGlobals x) (some (some (.ref (He.ga K x))))) && (T.frees.all (fun x => He.eqO (PySem.W.nsIn K mainGlobals x) (some none)) &&
  (T.cInt.all (fun q => match PySem.W.nsIn K mainGlobals q.1 with
    | some (some (.int j _)) => decide (j = q.2)
    | _ => false) && (T.cStr.all (fun q => match PySem.W.nsIn K mainGlobals q.1 with
    | some (some (.str j _)) => decide (j = q.2)
    | _ => false) &&
  (T.own.all (fun c => insB K (g.ca c)) && (T.mks.all (fun q => mkB K (g.ca q.1) (g.fa q.2)) && ((T.xm ++ T.xv.map (·.1)).all (fun c => exB K (g.ca c)) &&
  (T.xm.all (fun c => PySem.W.excIn K (g.ca c) He.veBase "ValueError.__new__") && (T.xv.all (fun q => oexB K (g.ca q.1) && (He.eqO (PySem.W.findIn K (.ref (g.ca q.1)) "__init__") (some (some (.ref (g.fa q.2)))) && decide (PySem.W.typeIn K (.ref (g.fa q.2)) = some (.type "function")))) &&
  (T.G.flds.all (fun q => He.eqO (PySem.W.findIn K (.ref (g.ca q.1)) (g.nm q.2)) (some none)) && (T.G.props.all (fun q => propB K (g.ca q.1.1) (g.nm q.1.2) (g.fa q.2)) && (T.G.meths.all (fun q => methB K (g.ca q.1.1) (g.nm q.1.2) (g.fa q.2)) &&
  (T.G.xflds.all (fun q => He.eqO (PySem.W.findIn K (.ref (g.ca q.1)) (g.nm q.2)) (some none)) && (T.G.eqs.all (fun q => eqB T K (g.ca q.1) (g.fa q.2)) && (kitB T K &&
  ((T.xm ++ T.xv.map (·.1)).all (fun d => (T.xm ++ T.xv.map (·.1)).all fun c => match T.G.subs.lookup d with
    | some l => decide (PySem.W.exmOne K (.ref (g.ca d)) (.ref (g.ca c)) = some (l.contains c))
    | none => false) && ((T.xv.isEmpty || baseB K (g.ca 0)) && (T.G.meths.all (fun q => opB K (g.ca q.1.1) (g.nm q.1.2) (g.fa q.2)) && T.defs.all (fun D => D.E.kwd.all fun q => tup0B K (q.2.v K)))))))))))))))))))

/-- the def i takes n values, all given -/
def argn (T : Tb) (i n : Nat) : Bool := match T.defs[i]? with
  | some D => D.E.dfl.isEmpty && (D.E.kwd.isEmpty && D.ps.length == n)
  | none => false
/-- what does not hang upon K: the tables fit each other -/
def tbB (T : Tb) : Bool :=
  decide T.nms.Nodup && (!T.nms.contains "?" &&
  (T.G.flds.all (fun q => T.own.contains q.1) && (T.G.props.all (fun q => T.own.contains q.1.1) && (T.G.meths.all (fun q => T.own.contains q.1.1) && (T.G.xflds.all (fun q => (T.xv.map (·.1)).contains q.1) &&
  (T.G.eqs.all (fun q => T.own.contains q.1) && (T.G.subs.all (fun q => T.own.contains q.1 || (T.xm ++ T.xv.map (·.1)).contains q.1) && (T.G.excs.all (fun q => (T.xm ++ T.xv.map (·.1)).contains q.1) && ((T.xm ++ T.xv.map (·.1)).all (fun c => (T.G.excs.lookup c).isSome) && (T.own.all (fun c => (T.G.excs.lookup c).isNone) && (T.G.eqs.all (fun q => argn T q.2 2) && T.G.props.all fun q => argn T q.2 1)))))))))))
def fd0 : FuncData := PySem.W.fnOf "" "" ⟨[], [], none, [], [], none, []⟩ [] ⟨.function, [], false, false, []⟩ .none .none .none .none none .none .none
def fdOf (K : PySem.W.Frag) (a : Addr) : FuncData := match K.lookup a with
  | some ⟨_, _, .func fd, _⟩ => fd
  | _ => fd0
structure Wd (T : Tb) (P : Program) (w : World) (K : PySem.W.Frag) (mg : Str → Option Value) (base : Heap) : Prop where
  inb : K.In base
  ns : base.Ns mainGlobals mg
  ok : wdB T K = true
  tb : tbB T = true
  is : ∀ (i : Nat) (D : Def), T.defs[i]? = some D → D.E.Is K (fdOf K ((T.gx K).fa i))
def Lv (T : Tb) (P : Program) (w : World) (K : PySem.W.Frag) (mg : Str → Option Value) (base : Heap) (n : Nat) : Prop := ∀ (i : Nat) (D : Def), T.defs[i]? = some D → FnG P w K mg base (L2.CX P w) (2 * n + 2) ((T.gx K).fa i) (fdOf K ((T.gx K).fa i)) D.ps (spOf (T.gx K) (call T.G T.w n) i)
theorem lv0 {T : Tb} {P : Program} {w : World} {K : PySem.W.Frag} {mg : Str → Option Value} {base : Heap} : Lv T P w K mg base 0 := fun _ _ _ =>
  ⟨fun _ _ _ _ ⟨_, _, _, _, _, _, h⟩ => h.elim, fun _ _ _ _ _ _ _ _ _ _ _ _ _ _ ⟨_, _, _, _, _, _, h⟩ => h.elim⟩
theorem lv_all {T : Tb} {P : Program} {w : World} {K : PySem.W.Frag} {mg : Str → Option Value} {base : Heap} (h : ∀ n, (∀ m, m ≤ n → Lv T P w K mg base m) → Lv T P w K mg base (n + 1)) (n : Nat) : Lv T P w K mg base n := by
  have key : ∀ n m, m ≤ n → Lv T P w K mg base m := fun n => by
    induction n with
    | zero => intro m hm; rw [Nat.le_zero.mp hm]; exact lv0
    | succ n ih =>
      intro m hm
      rcases Nat.lt_or_ge n m with z | z
      · rw [Nat.le_antisymm hm z]
        exact h n ih
      · exact ih m z
  exact key n n (Nat.le_refl n)
end
end WT
set_option maxRecDepth 100000
set_option autoImplicit false
/-! Contexts with their facts; the rules over them. -/
namespace WT
noncomputable section
open PySem PySem.Spec PyProof.Rows L2

/-! ### reading the facts -/
section
variable {T : Tb} {P : Program} {w : World} {K : PySem.W.Frag} {mg : Str → Option Value} {base : Heap}
structure WdF (T : Tb) (K : PySem.W.Frag) : Prop where
  glo : ∀ x ∈ T.glos, He.eqO (PySem.W.nsIn K mainGlobals x) (some (some (.ref (He.ga K x)))) = true
  fre : ∀ x ∈ T.frees, He.eqO (PySem.W.nsIn K mainGlobals x) (some none) = true
  int : ∀ q ∈ T.cInt, (match PySem.W.nsIn K mainGlobals q.1 with
    | some (some (.int j _)) => decide (j = q.2)
    | _ => false) = true
  str : ∀ q ∈ T.cStr, (match PySem.W.nsIn K mainGlobals q.1 with
    | some (some (.str j _)) => decide (j = q.2)
    | _ => false) = true
  own : ∀ c ∈ T.own, InsF K ((T.gx K).ca c)
  mks : ∀ q ∈ T.mks, Mk K ((T.gx K).ca q.1) ((T.gx K).fa q.2)
  ex : ∀ c ∈ T.xm ++ T.xv.map (·.1), ExF K ((T.gx K).ca c)
  xm : ∀ c ∈ T.xm, PySem.W.excIn K ((T.gx K).ca c) He.veBase "ValueError.__new__" = true
  xv : ∀ q ∈ T.xv, oexB K ((T.gx K).ca q.1) = true ∧ PySem.W.findIn K (.ref ((T.gx K).ca q.1)) "__init__" = some (some (.ref ((T.gx K).fa q.2))) ∧ PySem.W.typeIn K (.ref ((T.gx K).fa q.2)) = some (.type "function")
  fld : ∀ q ∈ T.G.flds, PySem.W.findIn K (.ref ((T.gx K).ca q.1)) ((T.gx K).nm q.2) = some none
  prop : ∀ q ∈ T.G.props, propB K ((T.gx K).ca q.1.1) ((T.gx K).nm q.1.2) ((T.gx K).fa q.2) = true
  meth : ∀ q ∈ T.G.meths, methB K ((T.gx K).ca q.1.1) ((T.gx K).nm q.1.2) ((T.gx K).fa q.2) = true
  xfld : ∀ q ∈ T.G.xflds, PySem.W.findIn K (.ref ((T.gx K).ca q.1)) ((T.gx K).nm q.2) = some none
  eq : ∀ q ∈ T.G.eqs, eqB T K ((T.gx K).ca q.1) ((T.gx K).fa q.2) = true
  kit : kitB T K = true
  exm : ∀ d ∈ T.xm ++ T.xv.map (·.1), ∀ c ∈ T.xm ++ T.xv.map (·.1), (match T.G.subs.lookup d with
      | some l => decide (PySem.W.exmOne K (.ref ((T.gx K).ca d)) (.ref ((T.gx K).ca c)) = some (l.contains c))
      | none => false) = true
  base : (T.xv.isEmpty || baseB K ((T.gx K).ca 0)) = true
  kw : ∀ D ∈ T.defs, (D.E.kwd.all fun q => tup0B K (q.2.v K)) = true
  op : ∀ q ∈ T.G.meths, opB K ((T.gx K).ca q.1.1) ((T.gx K).nm q.1.2) ((T.gx K).fa q.2) = true
theorem ball {α : Type} {l : List α} {p : α → Bool} (h : l.all p = true) : ∀ x ∈ l, p x = true := List.all_eq_true.mp h
theorem wdF (h : wdB T K = true) : WdF T K := by
  unfold wdB at h
  simp only [Bool.and_eq_true] at h
  obtain ⟨h1, h2, h3, h4, h5, h6, h7, h8, h9, h10, h11, h12, h13, h14, h15, h16, h17, h18, h19⟩ := h
  refine ⟨ball h1, ball h2, ball h3, ball h4, fun c hc => insB_ok (ball h5 c hc), fun q hq => mkB_ok (ball h6 q hq), fun c hc => exB_ok (ball h7 c hc), ball h8, fun q hq => ?_, fun q hq => He.eqO_ok (ball h10 q hq), ball h11, ball h12, fun q hq => He.eqO_ok (ball h13 q hq), ball h14, h15, fun d hd => ball (ball h16 d hd), h17, ball h19, ball h18⟩
  have z := ball h9 q hq
  rw [Bool.and_eq_true, Bool.and_eq_true] at z
  exact ⟨z.1, He.eqO_ok z.2.1, of_decide_eq_true z.2.2⟩
theorem Wd.f (d : Wd T P w K mg base) : WdF T K := wdF d.ok
theorem Wd.glo (d : Wd T P w K mg base) (i : Nat) {x : Str} (h : T.glos[i]? = some x) : mg x = some (.ref (He.ga K x)) := PySem.W.mg_of d.inb d.ns (He.eqO_ok (d.f.glo x (List.mem_of_getElem? h)))
theorem Wd.fre (d : Wd T P w K mg base) (i : Nat) {x : Str} (h : T.frees[i]? = some x) : mg x = none := PySem.W.mg_none_of d.inb d.ns (He.eqO_ok (d.f.fre x (List.mem_of_getElem? h)))
theorem Wd.int (d : Wd T P w K mg base) (i : Nat) {x : Str} {z : Int} (h : T.cInt[i]? = some (x, z)) : ∃ t, mg x = some (.int z t) := by
  have k := d.f.int _ (List.mem_of_getElem? h)
  split at k
  · rename_i j t e
    have ej : j = z := of_decide_eq_true k
    exact ⟨t, ej ▸ PySem.W.mg_of d.inb d.ns e⟩
  · cases k
theorem Wd.str (d : Wd T P w K mg base) (i : Nat) {x z : Str} (h : T.cStr[i]? = some (x, z)) : ∃ t, mg x = some (.str z t) := by
  have k := d.f.str _ (List.mem_of_getElem? h)
  split at k
  · rename_i j t e
    have ej : j = z := of_decide_eq_true k
    exact ⟨t, ej ▸ PySem.W.mg_of d.inb d.ns e⟩
  · cases k
structure TbF (T : Tb) : Prop where
  nd : T.nms.Nodup
  q : T.nms.contains "?" = false
  fld : ∀ q ∈ T.G.flds, q.1 ∈ T.own
  prop : ∀ q ∈ T.G.props, q.1.1 ∈ T.own
  meth : ∀ q ∈ T.G.meths, q.1.1 ∈ T.own
  xfld : ∀ q ∈ T.G.xflds, q.1 ∈ T.xv.map (·.1)
  eq : ∀ q ∈ T.G.eqs, q.1 ∈ T.own
  sub : ∀ q ∈ T.G.subs, q.1 ∈ T.own ∨ q.1 ∈ T.xm ++ T.xv.map (·.1)
  exc : ∀ q ∈ T.G.excs, q.1 ∈ T.xm ++ T.xv.map (·.1)
  exx : ∀ c ∈ T.xm ++ T.xv.map (·.1), (T.G.excs.lookup c).isSome = true
  ownx : ∀ c ∈ T.own, T.G.excs.lookup c = none
  eqn : ∀ q ∈ T.G.eqs, argn T q.2 2 = true
  prn : ∀ q ∈ T.G.props, argn T q.2 1 = true
theorem argn_ok {T : Tb} {i n : Nat} (h : argn T i n = true) : ∃ D, T.defs[i]? = some D ∧ D.E.dfl = [] ∧ D.E.kwd = [] ∧ D.ps.length = n := by
  unfold argn at h
  split at h
  · rename_i D e
    rw [Bool.and_eq_true, Bool.and_eq_true] at h
    exact ⟨D, e, List.isEmpty_iff.mp h.1, List.isEmpty_iff.mp h.2.1, eq_of_beq h.2.2⟩
  · cases h
theorem tbF (h : tbB T = true) : TbF T := by
  unfold tbB at h
  simp only [Bool.and_eq_true] at h
  obtain ⟨h1, h2, h3, h4, h5, h6, h7, h8, h9, h11, h10, h12, h13⟩ := h
  refine ⟨of_decide_eq_true h1, by simpa using h2, fun q hq => List.contains_iff_mem.mp (ball h3 q hq), fun q hq => List.contains_iff_mem.mp (ball h4 q hq), fun q hq => List.contains_iff_mem.mp (ball h5 q hq), fun q hq => List.contains_iff_mem.mp (ball h6 q hq), fun q hq => List.contains_iff_mem.mp (ball h7 q hq), fun q hq => ?_, fun q hq => List.contains_iff_mem.mp (ball h9 q hq), ball h11, fun c hc => Option.isNone_iff_eq_none.mp (ball h10 c hc), ball h12, ball h13⟩
  have z := ball h8 q hq
  rw [Bool.or_eq_true] at z
  exact z.imp List.contains_iff_mem.mp List.contains_iff_mem.mp
theorem Wd.t (d : Wd T P w K mg base) : TbF T := tbF d.tb
theorem lookup_in {α β : Type} [BEq α] [LawfulBEq α] : ∀ {l : List (α × β)} {a : α} {b : β}, l.lookup a = some b → (a, b) ∈ l
  | [], _, _, h => by cases h
  | (k, v) :: r, a, b, h => by
    rw [List.lookup_cons] at h
    cases q : a == k with
    | true =>
      rw [q] at h
      cases h
      rw [eq_of_beq q]
      exact List.mem_cons_self
    | false =>
      rw [q] at h
      exact List.mem_cons_of_mem _ (lookup_in h)
theorem Wd.inj (d : Wd T P w K mg base) {j : Nat} (hj : j < T.nms.length) : InjAt (T.gx K) j := fun i e => by
  have e : T.nms.getD i "?" = T.nms.getD j "?" := e
  have e2 : T.nms.getD j "?" = T.nms[j] := by simp [List.getD, hj]
  rw [e2] at e
  by_cases hi : i < T.nms.length
  · have e3 : T.nms.getD i "?" = T.nms[i] := by simp [List.getD, hi]
    rw [e3] at e
    exact (List.getElem_inj d.t.nd).mp e
  · have e3 : T.nms.getD i "?" = "?" := by simp [List.getD, hi]
    rw [e3] at e
    have := d.t.q
    rw [e, List.contains_iff_mem.mpr (List.getElem_mem hj)] at this
    cases this
theorem Wd.own (d : Wd T P w K mg base) : OwnF (T.gx K) T.G K := by
  refine ⟨fun c l h => ?_, fun c l h => ?_⟩
  · unfold clsOk at h
    split at h
    · rename_i h0
      have h0 : (T.G.excs.lookup c).isSome = false := eq_of_beq h0
      rcases d.t.sub _ (lookup_in h) with z | z
      · exact d.f.own c z
      · have := d.t.exx c z
        rw [h0] at this
        cases this
    · cases h
  · unfold clsOk at h
    split at h
    · rename_i h0
      have h0 : (T.G.excs.lookup c).isSome = true := eq_of_beq h0
      obtain ⟨b, hb⟩ := Option.isSome_iff_exists.mp h0
      exact (d.f.ex c (d.t.exc _ (lookup_in hb))).c
    · cases h
theorem Wd.kitF (d : Wd T P w K mg base) {t : PV} (ht : t ∈ tys T) : KitF (T.gx K) T.G K t := fun k b h => by
  have hk : k ∈ vts T := by
    unfold vts
    rw [List.mem_append, List.mem_append]
    have bt : ∀ n, bkinds.contains n = true → VT.bt n ∈ bkinds.map VT.bt := fun n hn => List.mem_map.mpr ⟨n, List.contains_iff_mem.mp hn, rfl⟩
    have oc : ∀ c l, clsOk T.G false c = some l → VT.own c ∈ T.own.map VT.own := fun c l hl => by
      unfold clsOk at hl
      split at hl
      · rename_i h0
        have h0 : (T.G.excs.lookup c).isSome = false := eq_of_beq h0
        rcases d.t.sub _ (lookup_in hl) with z | z
        · exact List.mem_map.mpr ⟨c, z, rfl⟩
        · have := d.t.exx c z
          rw [h0] at this
          cases this
      · cases hl
    have xc : ∀ c l, clsOk T.G true c = some l → VT.xc c ∈ (T.xm ++ T.xv.map (·.1)).map VT.xc := fun c l hl => by
      unfold clsOk at hl
      split at hl
      · rename_i h0
        have h0 : (T.G.excs.lookup c).isSome = true := eq_of_beq h0
        obtain ⟨b, hb⟩ := Option.isSome_iff_exists.mp h0
        exact List.mem_map.mpr ⟨c, d.t.exc _ (lookup_in hb), rfl⟩
      · cases hl
    unfold isVT at h
    split at h
    · split at h
      · rename_i z
        rw [Bool.and_eq_true] at z
        exact .inl (.inl (bt _ z.1))
      · cases h
    · split at h
      · rename_i z
        exact .inl (.inl (bt _ z))
      · cases h
    · split at h
      · obtain ⟨l, hl, _⟩ := Option.map_eq_some_iff.mp h
        exact .inl (.inr (oc _ l hl))
      · cases h
    · split at h
      · obtain ⟨l, hl, _⟩ := Option.map_eq_some_iff.mp h
        exact .inr (xc _ l hl)
      · split at h
        · obtain ⟨l, hl, _⟩ := Option.map_eq_some_iff.mp h
          exact .inr (xc _ l hl)
        · cases h
    · obtain ⟨l, hl, _⟩ := Option.map_eq_some_iff.mp h
      exact .inl (.inr (oc _ l hl))
    · obtain ⟨l, hl, _⟩ := Option.map_eq_some_iff.mp h
      exact .inr (xc _ l hl)
    · cases h
  have z := ball (ball d.f.kit k hk) t ht
  rw [h] at z
  exact of_decide_eq_true z
theorem Wd.vtk (d : Wd T P w K mg base) {k : VT} {b : Bool} (h : isVT T.G k (.ty "int") = some b) : k ∈ vts T := by
  unfold vts
  rw [List.mem_append, List.mem_append]
  cases k with
  | bt n =>
    have h : (if bkinds.contains n && tkinds.contains "int" then some (n == "int" || (n == "bool" && "int" == "int")) else none) = some b := h
    split at h
    · rename_i z
      rw [Bool.and_eq_true] at z
      exact .inl (.inl (List.mem_map.mpr ⟨n, List.contains_iff_mem.mp z.1, rfl⟩))
    · cases h
  | own c =>
    have h : (if tkinds.contains "int" then (clsOk T.G false c).map fun _ => false else none) = some b := h
    split at h
    · obtain ⟨l, hl, _⟩ := Option.map_eq_some_iff.mp h
      unfold clsOk at hl
      split at hl
      · rename_i h0
        have h0 : (T.G.excs.lookup c).isSome = false := eq_of_beq h0
        rcases d.t.sub _ (lookup_in hl) with z | z
        · exact .inl (.inr (List.mem_map.mpr ⟨c, z, rfl⟩))
        · have := d.t.exx c z
          rw [h0] at this
          cases this
      · cases hl
    · cases h
  | xc c =>
    have h : (if tkinds.contains "int" then (clsOk T.G true c).map fun _ => false else if xkinds.contains "int" then (clsOk T.G true c).map fun _ => true else none) = some b := h
    have hl : ∃ l, clsOk T.G true c = some l := by
      split at h
      · obtain ⟨l, hl, _⟩ := Option.map_eq_some_iff.mp h
        exact ⟨l, hl⟩
      · split at h
        · obtain ⟨l, hl, _⟩ := Option.map_eq_some_iff.mp h
          exact ⟨l, hl⟩
        · cases h
    obtain ⟨l, hl⟩ := hl
    unfold clsOk at hl
    split at hl
    · rename_i h0
      have h0 : (T.G.excs.lookup c).isSome = true := eq_of_beq h0
      obtain ⟨b, hb⟩ := Option.isSome_iff_exists.mp h0
      exact .inr (List.mem_map.mpr ⟨c, d.t.exc _ (lookup_in hb), rfl⟩)
    · cases hl
end

/-! ### contexts -/
/-- all arguments given, in order -/
def posN (D : Def) : List (Option Dfl) := List.replicate D.ps.length none
/-- how the defs bind where all is given by position -/
def Gbs (T : Tb) (K : PySem.W.Frag) : Prop := ∀ (i : Nat) (D : Def), T.defs[i]? = some D → D.E.dfl = [] → D.E.kwd = [] → GB K (fdOf K ((T.gx K).fa i)) D.ps (posN D) []
/-- the exceptions' own __init__ -/
def Xis (T : Tb) (P : Program) (w : World) (K : PySem.W.Frag) (mg : Str → Option Value) (base : Heap) : Prop := ∀ q ∈ T.xv, ∃ j n, T.G.excs.lookup q.1 = some (some [j]) ∧ FnOk P w K mg base (L2.CX P w) 1 ((T.gx K).fa q.2) (fdOf K ((T.gx K).fa q.2)) ["self", n] (spX ((T.gx K).ca q.1) ((T.gx K).nm j)) ∧ Binds K (fdOf K ((T.gx K).fa q.2)) ["self", n] []
structure Fx (T : Tb) (g : Gx) (W : WX) (C : Ctx) (X : Cx) : Prop where
  wd : Wd T X.prog X.w X.K X.mg X.base
  hg : g = T.gx X.K
  gb : Gbs T X.K
  xi : Xis T X.prog X.w X.K X.mg X.base
  lv : ∃ n, C = ⟨call T.G T.w n, T.w, T.G⟩ ∧ Room (2 * n + 3) X.A ∧ ∀ m, m ≤ n → Lv T X.prog X.w X.K X.mg X.base m
  calm : X.calm = true
  nd : X.N.Nodup
  gd : X.A.guards = some []
  tk : Takes X W
  pa : PassesOwn (model X.prog X.w) X.A X.env X.xe
section
variable {T : Tb} {g : Gx} {W : WX} {C : Ctx} {X : Cx}
theorem Fx.K (F : Fx T g W C X) : X.K = g.K := by rw [F.hg]; rfl
theorem Fx.un (F : Fx T g W C X) : X.A.units + 65 < cLine := by
  obtain ⟨n, _, hr, _⟩ := F.lv
  have := hr.un
  omega
theorem Fx.tr {pn : List (Addr × Obj)} {xe : Value → Shared → Prop} {W' : WX} (F : Fx T g W C X) (tk : Takes (X.tr pn xe) W') (pa : PassesOwn (model X.prog X.w) X.A X.env xe) : Fx T g W' C (X.tr pn xe) :=
  ⟨F.wd, F.hg, F.gb, F.xi, F.lv, F.calm, F.nd, F.gd, tk, pa⟩
theorem Fx.blk {s : Shared} {H : Hp} {sc : Scope} {env : PySem.Env} {fp : List Addr} (F : Fx T g W C X) : Fx T g W0 C (X.blk s H sc env fp) :=
  ⟨F.wd, F.hg, F.gb, F.xi, F.lv, F.calm, F.nd, F.gd, takes0, PassesOwn.never⟩
/-- a def's promise here -/
theorem Fx.fn (F : Fx T g W C X) {i : Nat} {D : Def} (h : T.defs[i]? = some D) : ∃ n, FnG X.prog X.w X.K X.mg X.base (L2.CX X.prog X.w) (2 * n + 2) (g.fa i) (fdOf X.K (g.fa i)) D.ps (spOf g C.call i) ∧ Room (2 * n + 3) X.A := by
  obtain ⟨n, rfl, hr, hl⟩ := F.lv
  have hg := F.hg
  subst hg
  exact ⟨n, hl n (Nat.le_refl n) i D h, hr⟩
theorem Fx.cG (F : Fx T g W C X) : C.G = T.G := by
  obtain ⟨n, rfl, _⟩ := F.lv
  rfl
theorem Fx.eqo (F : Fx T g W C X) : EqOwn g X C W := by
  have hG := F.cG
  have hp := fun q hq => argn_ok (F.wd.t.eqn q hq)
  refine eqOwn_of F.K F.un F.gd ⟨?_, fun c f h => ?_⟩
  · rw [hG]
    have := F.wd.own
    rw [F.hg]
    exact this
  · rw [hG] at h
    have z := F.wd.f.eq _ (lookup_in h)
    obtain ⟨D, hD, d1, d2, d3⟩ := hp _ (lookup_in h)
    obtain ⟨n, G, hr⟩ := F.fn hD
    have hb := F.gb _ D hD d1 d2
    unfold posN at hb
    rw [d3, ← F.hg] at hb
    unfold eqB at z
    rw [Bool.and_eq_true, Bool.and_eq_true, Bool.and_eq_true, ← F.hg] at z
    have hm := (F.wd.f.own c (F.wd.t.eq _ (lookup_in h))).hm
    rw [← F.hg] at hm
    refine ⟨He.eqO_ok z.1.1.1, He.eqO_ok z.1.1.2, hm, z.1.2, fun k b hk => ball z.2 k (F.wd.vtk (by rw [← hG]; exact hk)), 2 * n + 2, _, D.ps, G, hr, hb⟩
end
end
end WT
set_option maxRecDepth 100000
set_option autoImplicit false
/-! The rules, over contexts with facts. -/
namespace WT
noncomputable section
open PySem PySem.Spec PyProof.Rows L2

section
variable {T : Tb} {g : Gx} {W : WX} {C : Ctx} {X : Cx} {a b c e o : Expr} {es : List Expr} {kws : List Keyword} {pos p p2 apos : Pos} {ca cb cc ce co : CE} {cs : List CE} {x : Str} {m : Bool}
/-! ### names, constants -/
theorem x_str {k : Nat} {i : Str} (hz : decide (i.length ≤ 1000) = true := by decide +kernel) : SE g W C X (.Constant (.str i) k pos) (.lit (.str i)) := se_str (by
  have := of_decide_eq_true hz
  rw [sizeLine_eq]
  omega)
theorem x_loc (i : Nat) (hN : X.N[i]? = some x := by rfl) (hv : Vis X.env.scope x := by first | exact Or.inl rfl | exact Or.inr (Or.inl rfl) | exact Or.inr (Or.inr rfl)) (hd : (x == ("__debug__" : Str)) = false := by decide +kernel) (hcd : (x == ("__classdict__" : Str)) = false := by decide +kernel) : SE g W C X (.Name x pos) (.loc i) := se_loc hN hv hd hcd
theorem x_cint (F : Fx T g W C X) (j : Nat) {z : Int} (h : T.cInt[j]? = some (x, z) := by rfl) (hg : Gl X x := by rfl) (hd : (x == ("__debug__" : Str)) = false := by decide +kernel) : SE g W C X (.Name x pos) (.glo (.int z)) := by
  obtain ⟨t, e⟩ := F.wd.int j h
  exact se_glo hg e (show RelV (V.int z) (Value.int z t) from ⟨t, rfl⟩) hd fun _ _ _ => .ofInt z
theorem x_cstr (F : Fx T g W C X) (j : Nat) {z : Str} (h : T.cStr[j]? = some (x, z) := by rfl) (hg : Gl X x := by rfl) (hd : (x == ("__debug__" : Str)) = false := by decide +kernel) (hz : decide (z.length ≤ 1000) = true := by decide +kernel) : SE g W C X (.Name x pos) (.glo (.str z)) := by
  obtain ⟨t, e⟩ := F.wd.str j h
  exact se_glo hg e (show RelV (V.str z) (Value.str z t) from ⟨t, rfl⟩) hd fun _ _ _ => .ofStr (by
    have := of_decide_eq_true hz
    rw [sizeLine_eq]
    omega)
theorem x_cls (F : Fx T g W C X) (j c : Nat) (h : T.glos[j]? = some x := by rfl) (hc : T.cns[c]? = some x := by rfl) (hg : Gl X x := by rfl) (hd : (x == ("__debug__" : Str)) = false := by decide +kernel) : SE g W C X (.Name x pos) (.glo (.cls c)) := by
  refine se_glo hg (F.wd.glo j h) (v := .ref (g.ca c)) ?_ hd fun _ _ _ => by unfold RV; rfl
  have e : g.ca c = He.ga X.K x := by
    rw [F.hg]
    show He.ga X.K (T.cns.getD c "?") = _
    rw [List.getD, hc]
    rfl
  rw [e]
  rfl
theorem x_bty (F : Fx T g W C X) (j : Nat) {n : String} (h : T.frees[j]? = some x := by rfl) (hv : bootBuiltins x = some (.type n) := by rfl) (hg : Gl X x := by rfl) (hn : x ≠ "__name__" := by decide +kernel) (hd : (x == ("__debug__" : Str)) = false := by decide +kernel) : SE g W C X (.Name x pos) (.glo (.ty n)) := se_bty hg (F.wd.fre j h) hv hn hd
/-! ### operators -/
theorem x_bin (F : Fx T g W C X) {op : Operator} (m : Bool) (ha : SE g W C X a ca) (hb : SE g W C X b cb) : SE g W C X (.BinOp a op b pos) (.bin op m ca cb) := se_bin F.K ha hb
theorem x_cmp (F : Fx T g W C X) {op : CmpOp} (ha : SE g W C X a ca) (hb : SE g W C X b cb) (hm : behindInMarks op b = false := by rfl) : SE g W C X (.Compare a [op] [b] pos) (.cmp op ca cb) := se_cmp F.K F.un F.eqo hm ha hb
theorem xt_cmp (F : Fx T g W C X) {op : CmpOp} (ha : SE g W C X a ca) (hb : SE g W C X b cb) (hm : behindInMarks op b = false := by rfl) : ST g W C X (.Compare a [op] [b] pos) (.cmp op ca cb) := st_cmp F.K F.un F.eqo hm ha hb
theorem x_chn (F : Fx T g W C X) {o1 o2 : CmpOp} (ha : SE g W C X a ca) (hb : SE g W C X b cb) (hc : SE g W C X c cc) (hm : lastMarks [o1, o2] [b, c] = false := by rfl) : SE g W C X (.Compare a [o1, o2] [b, c] pos) (.chn o1 o2 ca cb cc) := se_chn F.K F.un F.eqo hm ha hb hc
theorem xt_chn (F : Fx T g W C X) {o1 o2 : CmpOp} (ha : SE g W C X a ca) (hb : SE g W C X b cb) (hc : SE g W C X c cc) (hm : lastMarks [o1, o2] [b, c] = false := by rfl) : ST g W C X (.Compare a [o1, o2] [b, c] pos) (.chn o1 o2 ca cb cc) := st_chn F.K F.un F.eqo hm ha hb hc
theorem x_and (F : Fx T g W C X) (ha : SE g W C X a ca) (hb : SE g W C X (.BoolOp .And (b :: es) pos) cb) : SE g W C X (.BoolOp .And (a :: b :: es) pos) (.and ca cb) := se_and F.K ha hb
theorem x_or (F : Fx T g W C X) (ha : SE g W C X a ca) (hb : SE g W C X (.BoolOp .Or (b :: es) pos) cb) : SE g W C X (.BoolOp .Or (a :: b :: es) pos) (.or ca cb) := se_or F.K ha hb
theorem x_not (F : Fx T g W C X) (ha : SE g W C X a ca) : SE g W C X (.UnaryOp .Not a pos) (.not ca) := se_not F.K ha
theorem xt_p (F : Fx T g W C X) (ha : SE g W C X a ca) (he : ∀ whole, isTrue a X.env whole = (do let v ← whole; standAt a.pos; holding [v] (PySem.truthy v)) := by intro _; rfl) : ST g W C X a ca := st_plain F.K ha he
/-! ### displays, items -/
theorem x_nil : SA g W C X [] [] := sa_nil
theorem x_cons (ha : SE g W C X a ca) (hr : SA g W C X es cs) (hs : starEach (a :: es) X.env = (false, eval a X.env) :: starEach es X.env := by rfl) : SA g W C X (a :: es) (ca :: cs) := sa_cons ha hr hs
theorem x_tup {k : Nat} (ha : SA g W C X es cs) (hz : decide (cs.length ≤ 1000) = true := by rfl) : SE g W C X (.Tuple es k pos) (.tup cs) := se_tup ha (of_decide_eq_true hz)
theorem x_lst (m : Bool) (ha : SA g W C X es cs) (hz : decide (cs.length ≤ 1000) = true := by rfl) : SE g W C X (.List es pos) (.lst m cs) := se_lst ha (of_decide_eq_true hz)
theorem x_idx (F : Fx T g W C X) (ha : SE g W C X a ca) (hb : SE g W C X b cb) (hs : PlainIx b := by intro _ _; rfl) : SE g W C X (.Subscript a b pos) (.idx ca cb) := se_idx F.K F.un ha hb hs
theorem x_slc (F : Fx T g W C X) (m : Bool) {cl ch : CE} {lo hi : Option Expr} (ha : SE g W C X a ca) (hl : Bd g W C X lo cl) (hh : Bd g W C X hi ch) : SE g W C X (.Subscript a (.Slice lo hi none p2) pos) (.slc m ca cl ch) := se_slc F.K ha hl hh
theorem x_rev (F : Fx T g W C X) (m : Bool) {kp : Nat} {p3 p4 : Pos} (ha : SE g W C X a ca) : SE g W C X (.Subscript a (.Slice none none (some (.UnaryOp .USub (.Constant (.int 1) kp p3) p4)) p2) pos) (.rev m ca) := se_rev (one := a) F.K ha
/-! ### calls -/
theorem dfl_none {n : Nat} : DflOk g (List.replicate n none) := fun d hd => by
  have := List.eq_of_mem_replicate hd
  cases this
theorem args_none {n : Nat} {cs : List CE} (h : cs.length = n) : argsOf (List.replicate n none) cs = cs := by
  subst h
  have : (List.replicate cs.length (none : Option Dfl)).map (·.map fun d => CE.lit d.p) = List.replicate cs.length none := by rw [List.map_replicate]; rfl
  unfold argsOf
  rw [this]
  exact fill_nones cs
theorem holes_none {n : Nat} : holes (List.replicate n (none : Option Dfl)) = n := by
  induction n with
  | zero => rfl
  | succ n ih => show holes (List.replicate n none) + 1 = n + 1; rw [ih]
theorem x_ca0 : CallArgs g W C X [] [] pos [] [] := ca_none
theorem x_ca (ha : SA g W C X (e :: es) cs) (he : starEach (e :: es) X.env = (false, eval e X.env) :: starEach es X.env := by rfl) (hpl : (backTo pos (starEach es X.env)).any (·.1) = false := by rfl) : CallArgs g W C X (e :: es) [] pos [] cs := ca_pos ha he hpl
theorem x_call (F : Fx T g W C X) (j i : Nat) {D : Def} {ks : List Str} (ha : CallArgs g W C X es kws pos ks cs) (hb : GB X.K (fdOf X.K (g.fa i)) D.ps (posN D) ks) (hD : T.defs[i]? = some D := by rfl) (hj : T.glos[j]? = some x := by rfl) (hf : g.fa i = He.ga X.K x := by rfl) (hl : cs.length = D.ps.length := by rfl) (hg : Gl X x := by rfl) (hd : (x == ("__debug__" : Str)) = false := by decide +kernel) :
    SE g W C X (.Call (.Name x p) es kws pos) (.call i cs) := by
  obtain ⟨n, G, hr⟩ := F.fn hD
  have is := F.wd.is i D hD
  have kp := is.kp
  have e : D.E.ad X.K = g.fa i := by rw [F.hg]; show _ = (match T.defs[i]? with | some D => D.E.ad X.K | none => 0); rw [hD]
  rw [e] at kp
  have hm := F.wd.glo j hj
  rw [← hf] at hm
  have := se_call (p := p) (pos := pos) G (hr.mono (Nat.le_succ _)) F.gd hg hm kp hb (by rw [hl]; exact holes_none.symm) dfl_none F.tk hd ha
  unfold posN at this
  rwa [args_none hl] at this
/-- by position -/
theorem x_fn (F : Fx T g W C X) (j i : Nat) {D : Def} (ha : CallArgs g W C X es [] pos [] cs) (hD : T.defs[i]? = some D := by rfl) (h1 : D.E.dfl = [] := by rfl) (h2 : D.E.kwd = [] := by rfl) (hj : T.glos[j]? = some x := by rfl) (hf : g.fa i = He.ga X.K x := by rfl) (hl : cs.length = D.ps.length := by rfl) (hg : Gl X x := by rfl) (hd : (x == ("__debug__" : Str)) = false := by decide +kernel) :
    SE g W C X (.Call (.Name x p) es [] pos) (.call i cs) := by
  have hb := F.gb i D hD h1 h2
  rw [← F.hg] at hb
  exact x_call F j i ha hb hD hj hf hl hg hd
theorem x_mk (F : Fx T g W C X) (j q k : Nat) {c i : Nat} {fr : Bool} {D : Def} {ks : List Str} (ha : CallArgs g W C X es kws pos ks cs) (hb : GB X.K (fdOf X.K (g.fa i)) D.ps (posN D) ks) (hq : T.mks[q]? = some (c, i) := by rfl) (hk : T.G.fns[k]? = some (.mk c i fr) := by rfl) (hD : T.defs[i]? = some D := by rfl) (hj : T.glos[j]? = some x := by rfl) (hc : T.cns[c]? = some x := by rfl) (hl : cs.length + 1 = D.ps.length := by rfl) (hg : Gl X x := by rfl) (hd : (x == ("__debug__" : Str)) = false := by decide +kernel) :
    SE g W C X (.Call (.Name x p) es kws pos) (.call k cs) := by
  obtain ⟨n, rfl, hr, hlv⟩ := F.lv
  have hgg := F.hg
  have hmk := F.wd.f.mks _ (List.mem_of_getElem? hq)
  rw [← hgg] at hmk
  have e : g.ca c = He.ga X.K x := by
    rw [hgg]
    show He.ga X.K (T.cns.getD c "?") = _
    rw [List.getD, hc]
    rfl
  have hm := F.wd.glo j hj
  rw [← e] at hm
  have pe : posN D = none :: List.replicate cs.length none := by unfold posN; rw [← hl]; rfl
  rw [pe] at hb
  cases n with
  | zero =>
    have G : FnG X.prog X.w X.K X.mg X.base (L2.CX X.prog X.w) 0 (g.fa i) (fdOf X.K (g.fa i)) D.ps (spOf g (fun _ _ _ => Res.stuck) i) := ⟨fun _ _ _ _ ⟨_, _, _, _, _, _, h⟩ => h.elim, fun _ _ _ _ _ _ _ _ _ _ _ _ _ _ ⟨_, _, _, _, _, _, h⟩ => h.elim⟩
    have := se_mk (C := ⟨call T.G T.w 0, T.w, T.G⟩) (C' := ⟨fun _ _ _ => .stuck, T.w, T.G⟩) (init := i) (fr := fr) (f := k) (p := p) (pos := pos) rfl hmk G (hr.mono (by omega)) F.gd hg hm hb holes_none.symm dfl_none F.tk hd ha
    rwa [args_none rfl] at this
  | succ n =>
    have G := hlv n (Nat.le_succ n) i D hD
    rw [← hgg] at G
    have := se_mk (C := ⟨call T.G T.w (n + 1), T.w, T.G⟩) (C' := ⟨call T.G T.w n, T.w, T.G⟩) (c := c) (init := i) (fr := fr) (f := k) (p := p) (pos := pos) (by
      funext as M
      show (match T.G.fns[k]? with
        | some d => runFn ⟨call T.G T.w n, T.w, T.G⟩ d as M
        | none => .stuck) = _
      rw [hk]) hmk G (hr.mono (by omega)) F.gd hg hm hb holes_none.symm dfl_none F.tk hd ha
    rwa [args_none rfl] at this
/-- a class, by position -/
theorem x_new (F : Fx T g W C X) (j q k : Nat) {c i : Nat} {fr : Bool} {D : Def} (ha : CallArgs g W C X es [] pos [] cs) (hq : T.mks[q]? = some (c, i) := by rfl) (hk : T.G.fns[k]? = some (.mk c i fr) := by rfl) (hD : T.defs[i]? = some D := by rfl) (h1 : D.E.dfl = [] := by rfl) (h2 : D.E.kwd = [] := by rfl) (hj : T.glos[j]? = some x := by rfl) (hc : T.cns[c]? = some x := by rfl) (hl : cs.length + 1 = D.ps.length := by rfl) (hg : Gl X x := by rfl) (hd : (x == ("__debug__" : Str)) = false := by decide +kernel) :
    SE g W C X (.Call (.Name x p) es [] pos) (.call k cs) := by
  have hb := F.gb i D hD h1 h2
  rw [← F.hg] at hb
  exact x_mk F j q k ha hb hq hk hD hj hc hl hg hd
/-- the attributes' facts -/
theorem Fx.fld (F : Fx T g W C X) {j : Nat} (hj : decide (j < T.nms.length) = true) : FldOk g C X j := by
  have hgg := F.hg
  refine ⟨by rw [hgg]; exact F.wd.inj (of_decide_eq_true hj), fun c h => ?_, fun c f h => ?_, fun c h => ?_⟩
  · rw [F.cG] at h
    have h := List.contains_iff_mem.mp h
    have z := F.wd.f.fld _ h
    rw [hgg]
    exact ⟨(F.wd.f.own c (F.wd.t.fld _ h)).cl, z⟩
  · rw [F.cG] at h
    have h := lookup_in h
    have z := F.wd.f.prop _ h
    obtain ⟨D, hD, d1, d2, d3⟩ := argn_ok (F.wd.t.prn _ h)
    obtain ⟨n, G, hr⟩ := F.fn hD
    have hb := F.gb _ D hD d1 d2
    unfold posN at hb
    rw [d3] at hb
    rw [← hgg] at hb z
    have cl := (F.wd.f.own c (F.wd.t.prop _ h)).cl
    rw [← hgg] at cl
    exact ⟨cl, propB_ok z, _, _, _, G, hr, hb⟩
  · rw [F.cG] at h
    have h := List.contains_iff_mem.mp h
    have z := F.wd.f.xfld _ h
    have y := (F.wd.f.ex c (List.mem_append_right _ (F.wd.t.xfld _ h))).c
    rw [← hgg] at z y
    exact @excAttr g X c j ⟨y.hg, y.hk, y.hs, y.hd⟩ z
theorem x_fld (F : Fx T g W C X) (j : Nat) (ho : SE g W C X o co) (hx : g.nm j = x := by rfl) (hj : decide (j < T.nms.length) = true := by rfl) (hb : attributeBase o x X.env (eval o X.env) = eval o X.env := by rfl) : SE g W C X (.Attribute o x pos) (.fld co j) := by
  subst hx
  exact se_fld (F.fld hj) F.gd ho hb
/-- a method that one class alone has, by position -/
theorem x_met (F : Fx T g W C X) (j c0 f0 : Nat) {D : Def} {ks : List Str} {pl : Sem Bool} (ho : SE g W C X o co) (ha : CallArgs g W C X es kws pos ks cs) (hb : GB X.K (fdOf X.K (g.fa f0)) D.ps (posN D) ks) (hD : T.defs[f0]? = some D := by rfl) (hx : g.nm j = x := by rfl) (hj : decide (j < T.nms.length) = true := by rfl) (hone : (T.G.meths.all fun q => q.1.2 != j || (q.1.1 == c0 && q.2 == f0)) = true := by rfl) (hl : cs.length + 1 = D.ps.length := by rfl)
    (ht : eval (.Call (.Attribute o x apos) es kws pos) X.env = (do
      let ov ← eval o X.env
      standAt apos.atName
      let (f, first) ← holding [ov] (getMethod ov x pl)
      callWith pos f first (backTo pos (starEach es X.env)) (backToKw pos (keywordEach kws X.env))) := by rfl) : SE g W C X (.Call (.Attribute o x apos) es kws pos) (.met co j cs) := by
  subst hx
  have hgg := F.hg
  obtain ⟨n, G, hr⟩ := F.fn hD
  have pe : posN D = none :: List.replicate cs.length none := by unfold posN; rw [← hl]; rfl
  rw [pe] at hb
  refine se_met (F.fld hj).inj (fun c f h => ?_) F.gd F.tk ho ha ht
  rw [F.cG] at h
  have h := lookup_in h
  have z := ball hone _ h
  have hcf : c = c0 ∧ f = f0 := by simpa using z
  obtain ⟨rfl, rfl⟩ := hcf
  have y := F.wd.f.meth _ h
  have cl := (F.wd.f.own c (F.wd.t.meth _ h)).cl
  rw [← hgg] at y cl
  exact ⟨cl, methB_ok y, _, _, _, _, G, hr.mono (Nat.le_succ _), hb, holes_none.symm, dfl_none, (args_none rfl).symm⟩
theorem x_me (F : Fx T g W C X) (j c0 f0 : Nat) {D : Def} {pl : Sem Bool} (ho : SE g W C X o co) (ha : CallArgs g W C X es [] pos [] cs) (hD : T.defs[f0]? = some D := by rfl) (h1 : D.E.dfl = [] := by rfl) (h2 : D.E.kwd = [] := by rfl) (hx : g.nm j = x := by rfl) (hj : decide (j < T.nms.length) = true := by rfl) (hone : (T.G.meths.all fun q => q.1.2 != j || (q.1.1 == c0 && q.2 == f0)) = true := by rfl) (hl : cs.length + 1 = D.ps.length := by rfl)
    (ht : eval (.Call (.Attribute o x apos) es [] pos) X.env = (do
      let ov ← eval o X.env
      standAt apos.atName
      let (f, first) ← holding [ov] (getMethod ov x pl)
      callWith pos f first (backTo pos (starEach es X.env)) (backToKw pos (keywordEach [] X.env))) := by rfl) : SE g W C X (.Call (.Attribute o x apos) es [] pos) (.met co j cs) := by
  have hb := F.gb f0 D hD h1 h2
  rw [← F.hg] at hb
  exact x_met F j c0 f0 ho ha hb hD hx hj hone hl ht
/-! ### built-in functions -/
theorem x_bf (F : Fx T g W C X) (j : Nat) {bf : BF} (m : Bool) {id : String} (hc : CallR X (.builtin id) (rBf g bf m)) (ha : SA g W C X (e :: es) cs) (hj : T.frees[j]? = some x := by rfl) (hv : bootBuiltins x = some (.builtin id) := by rfl) (hg : Gl X x := by rfl) (hn : x ≠ "__name__" := by decide +kernel) (hd : (x == ("__debug__" : Str)) = false := by decide +kernel)
    (he : starEach (e :: es) X.env = (false, eval e X.env) :: starEach es X.env := by rfl) (hpl : (backTo pos (starEach es X.env)).any (·.1) = false := by rfl) : SE g W C X (.Call (.Name x p) (e :: es) [] pos) (.bfn bf m cs) := se_bfnB hc hg (F.wd.fre j hj) hv ha hn hd he hpl
theorem x_bt (F : Fx T g W C X) (j : Nat) {bf : BF} (m : Bool) {id : String} (hc : CallR X (.type id) (rBf g bf m)) (ha : SA g W C X (e :: es) cs) (hj : T.frees[j]? = some x := by rfl) (hv : bootBuiltins x = some (.type id) := by rfl) (hg : Gl X x := by rfl) (hn : x ≠ "__name__" := by decide +kernel) (hd : (x == ("__debug__" : Str)) = false := by decide +kernel)
    (he : starEach (e :: es) X.env = (false, eval e X.env) :: starEach es X.env := by rfl) (hpl : (backTo pos (starEach es X.env)).any (·.1) = false := by rfl) : SE g W C X (.Call (.Name x p) (e :: es) [] pos) (.bfn bf m cs) := se_bfnT hc hg (F.wd.fre j hj) hv ha hn hd he hpl
theorem x_isi (F : Fx T g W C X) (j : Nat) {a2 : Expr} {t : PV} (h1 : SE g W C X a ca) (h2 : SE g W C X a2 (.glo t)) (hj : T.frees[j]? = some ("isinstance" : Str) := by rfl) (hF : ((tys T).any fun u => PV.beq u t) = true := by rfl) (ht : (∃ c, t = .cls c) ∨ ∃ n, t = .ty n := by first | exact .inl ⟨_, rfl⟩ | exact .inr ⟨_, rfl⟩) (hg : Gl X "isinstance" := by rfl)
    (hv : bootBuiltins "isinstance" = some (.builtin "isinstance") := by rfl) (hs1 : starEach [a, a2] X.env = (false, eval a X.env) :: starEach [a2] X.env := by rfl) (hs2 : starEach [a2] X.env = (false, eval a2 X.env) :: starEach [] X.env := by rfl) (hpl : (backTo pos (starEach [a2] X.env)).any (·.1) = false := by rfl) :
    SE g W C X (.Call (.Name "isinstance" p) [a, a2] [] pos) (.isi ca [t] false) := by
  have hK := F.K
  have ow := F.wd.own
  have hF : t ∈ tys T := by
    obtain ⟨u, hu, e⟩ := List.any_eq_true.mp hF
    rw [← PV.beq_eq e]
    exact hu
  have kf := F.wd.kitF hF
  rw [← F.hg] at ow kf
  exact se_isi1 (G := T.G) F.cG hK ow (hK ▸ kf) ht hg (F.wd.fre j hj) hv h1 h2 hs1 hs2 hpl
theorem x_isiT (F : Fx T g W C X) (j : Nat) {a2 : Expr} {t : PV} {ts : List PV} (h1 : SE g W C X a ca) (h2 : SE g W C X a2 (.tup ((t :: ts).map .glo))) (hj : T.frees[j]? = some ("isinstance" : Str) := by rfl) (hF : ((t :: ts).all fun q => (tys T).any fun u => PV.beq u q) = true := by rfl) (hg : Gl X "isinstance" := by rfl)
    (hv : bootBuiltins "isinstance" = some (.builtin "isinstance") := by rfl) (hs1 : starEach [a, a2] X.env = (false, eval a X.env) :: starEach [a2] X.env := by rfl) (hs2 : starEach [a2] X.env = (false, eval a2 X.env) :: starEach [] X.env := by rfl) (hpl : (backTo pos (starEach [a2] X.env)).any (·.1) = false := by rfl) :
    SE g W C X (.Call (.Name "isinstance" p) [a, a2] [] pos) (.isi ca (t :: ts) true) := by
  have hK := F.K
  have ow := F.wd.own
  have hF : ∀ q ∈ t :: ts, q ∈ tys T := fun q hq => by
    obtain ⟨u, hu, e⟩ := List.any_eq_true.mp (ball hF q hq)
    rw [← PV.beq_eq e]
    exact hu
  have kf := fun q hq => F.wd.kitF (hF q hq)
  have ht : ∀ q ∈ t :: ts, (∃ c, q = .cls c) ∨ ∃ n, q = .ty n := fun q hq => by
    have z := hF q hq
    unfold tys at z
    rcases List.mem_append.mp z with z | z
    · obtain ⟨n, _, rfl⟩ := List.mem_map.mp z
      exact .inr ⟨n, rfl⟩
    · obtain ⟨c, _, rfl⟩ := List.mem_map.mp z
      exact .inl ⟨c, rfl⟩
  rw [← F.hg] at ow kf
  exact se_isiM (G := T.G) F.cG hK ow (fun q hq => hK ▸ kf q hq) ht hg (F.wd.fre j hj) hv h1 h2 hs1 hs2 hpl
/-! ### dict displays -/
theorem ppN : PPs X pos [] [] (trC g W C []) := pps_nil
theorem ppC {ks : List (Option Expr)} {vs : List Expr} {r : List (CE × CE)} (hk : SE g W C X a ca) (hv : SE g W C X b cb) (hr : PPs X pos ks vs (trC g W C r)) : PPs X pos (some a :: ks) (b :: vs) (trC g W C ((ca, cb) :: r)) := pps_cons hk hv hr
theorem x_dic (m : Bool) {keys : List (Option Expr)} {values : List Expr} {ces : List (CE × CE)} {xs : List CE} (hp : PPs X pos keys values (trC g W C ces)) (hall : keys.all (·.isSome) = true := by rfl) (hl : keys.length = values.length := by rfl) (h0 : keys ≠ [] := by exact List.cons_ne_nil _ _) (h15 : decide (keys.length ≤ 15) = true := by rfl) (hc : ces.isEmpty = false := by rfl) :
    SE g W C X (.Dict keys values pos) (.dic m (flatC ces) xs) := se_dic hp hall hl h0 (of_decide_eq_true h15) hc
/-! ### keywords -/
theorem k_nil : SK g W C X [] [] := sk_nil
theorem k_cons {nm : Option Str} {kpos : Pos} {cs : List CE} (ha : SE g W C X e ce) (hr : SK g W C X kws cs) : SK g W C X (⟨nm, e, kpos⟩ :: kws) (ce :: cs) := sk_cons ha hr
theorem x_cak {ds : List CE} {ks : List Str} (ha : SA g W C X (e :: es) cs) (hkw : SK g W C X kws ds) (hall : (backToKw pos (keywordEach kws X.env)).all (·.1.isSome) = true := by rfl) (hks : (backToKw pos (keywordEach kws X.env)).filterMap (·.1) = ks := by rfl) (hds : ds.length = ks.length := by rfl) (he : starEach (e :: es) X.env = (false, eval e X.env) :: starEach es X.env := by rfl)
    (hpl : ((backTo pos (starEach (e :: es) X.env)).any (·.1) || (backToKw pos (keywordEach kws X.env)).any (·.1.isNone)) = false := by rfl) : CallArgs g W C X (e :: es) kws pos ks (cs ++ ds) := ca_kw ha hkw hall hks hds he hpl
theorem x_cak0 {ds : List CE} {ks : List Str} (hkw : SK g W C X kws ds) (hall : (backToKw pos (keywordEach kws X.env)).all (·.1.isSome) = true := by rfl) (hks : (backToKw pos (keywordEach kws X.env)).filterMap (·.1) = ks := by rfl) (hds : ds.length = ks.length := by rfl)
    (hpl : ((backTo pos (starEach [] X.env)).any (·.1) || (backToKw pos (keywordEach kws X.env)).any (·.1.isNone)) = false := by rfl) : CallArgs g W C X [] kws pos ks ds := ca_kw0 hkw hall hks hds hpl
/-! ### methods of lists and texts -/
theorem bmL {b : BM} (h : ∀ x, bmOk b x = true → ∃ xs, x = .lst xs) : BmTy b "list" := .inl ⟨rfl, h⟩
theorem bmS {b : BM} (h : ∀ x, bmOk b x = true → ∃ z, x = .str z) : BmTy b "str" := .inr (.inl ⟨rfl, h⟩)
theorem isL {b : BM} (hb : b = .append ∨ b = .extend ∨ b = .pop ∨ b = .clear) : ∀ x, bmOk b x = true → ∃ xs, x = .lst xs := fun x h => by
  rcases hb with rfl | rfl | rfl | rfl <;> (cases x <;> first | exact ⟨_, rfl⟩ | cases h)
theorem isS {b : BM} (hb : b = .join ∨ b = .split) : ∀ x, bmOk b x = true → ∃ z, x = .str z := fun x h => by
  rcases hb with rfl | rfl <;> (cases x <;> first | exact ⟨_, rfl⟩ | cases h)
/-- the form of a call with arguments -/
abbrev MForm (X : Cx) (e : Expr) (es : List Expr) (cpos : Pos) : Prop := ((backTo cpos (starEach (e :: es) X.env)).all (fun x => !x.1) && (backToKw cpos (keywordEach [] X.env)).all (fun x => x.1.isSome) && decide ((e :: es).length + ([] : List Keyword).length + (if ([] : List Keyword).isEmpty then 0 else 1) < 30)) = true
theorem xm_append (F : Fx T g W C X) (m : Bool) (ho : SE g W C X o co) (ha : SA g W C X (e :: es) cs) (hbase : attributeBase o "append" X.env (eval o X.env) = eval o X.env := by rfl) (hfew : MForm X e es pos := by rfl) (hline : (apos.endLine == pos.line) = true := by rfl) (hs : starEach (e :: es) X.env = (false, eval e X.env) :: starEach es X.env := by rfl) (hpl : (backTo pos (starEach es X.env)).any (·.1) = false := by rfl) :
    SE g W C X (.Call (.Attribute o "append" apos) (e :: es) [] pos) (.bme co .append m cs) := se_bme F.K (bmL (isL (.inl rfl))) PySem.F.plainAttrs_list PySem.F.slot_list_append PySem.F.type_list_append m_append ho ha hbase hfew hline hs hpl
theorem xm_extend (F : Fx T g W C X) (m : Bool) (ho : SE g W C X o co) (ha : SA g W C X (e :: es) cs) (hbase : attributeBase o "extend" X.env (eval o X.env) = eval o X.env := by rfl) (hfew : MForm X e es pos := by rfl) (hline : (apos.endLine == pos.line) = true := by rfl) (hs : starEach (e :: es) X.env = (false, eval e X.env) :: starEach es X.env := by rfl) (hpl : (backTo pos (starEach es X.env)).any (·.1) = false := by rfl) :
    SE g W C X (.Call (.Attribute o "extend" apos) (e :: es) [] pos) (.bme co .extend m cs) := se_bme F.K (bmL (isL (.inr (.inl rfl)))) PySem.F.plainAttrs_list PySem.F.slot_list_extend PySem.F.type_list_extend (m_extend F.K) ho ha hbase hfew hline hs hpl
theorem xm_join (F : Fx T g W C X) (m : Bool) (ho : SE g W C X o co) (ha : SA g W C X (e :: es) cs) (hbase : attributeBase o "join" X.env (eval o X.env) = eval o X.env := by rfl) (hfew : MForm X e es pos := by rfl) (hline : (apos.endLine == pos.line) = true := by rfl) (hs : starEach (e :: es) X.env = (false, eval e X.env) :: starEach es X.env := by rfl) (hpl : (backTo pos (starEach es X.env)).any (·.1) = false := by rfl) :
    SE g W C X (.Call (.Attribute o "join" apos) (e :: es) [] pos) (.bme co .join m cs) := se_bme F.K (bmS (isS (.inl rfl))) PySem.F.plainAttrs_str PySem.F.slot_str_join PySem.F.type_str_join (m_join F.K) ho ha hbase hfew hline hs hpl
theorem xm_split (F : Fx T g W C X) (m : Bool) (ho : SE g W C X o co) (ha : SA g W C X (e :: es) cs) (hbase : attributeBase o "split" X.env (eval o X.env) = eval o X.env := by rfl) (hfew : MForm X e es pos := by rfl) (hline : (apos.endLine == pos.line) = true := by rfl) (hs : starEach (e :: es) X.env = (false, eval e X.env) :: starEach es X.env := by rfl) (hpl : (backTo pos (starEach es X.env)).any (·.1) = false := by rfl) :
    SE g W C X (.Call (.Attribute o "split" apos) (e :: es) [] pos) (.bme co .split m cs) := se_bme F.K (bmS (isS (.inr rfl))) PySem.F.plainAttrs_str PySem.F.slot_str_split PySem.F.type_str_split m_split ho ha hbase hfew hline hs hpl
theorem xm_pop (F : Fx T g W C X) (m : Bool) (ho : SE g W C X o co) (hbase : attributeBase o "pop" X.env (eval o X.env) = eval o X.env := by rfl) (hline : (apos.endLine == pos.line) = true := by rfl) :
    SE g W C X (.Call (.Attribute o "pop" apos) [] [] pos) (.bme co .pop m []) := se_bme0 F.K (bmL (isL (.inr (.inr (.inl rfl))))) PySem.F.plainAttrs_list PySem.F.slot_list_pop PySem.F.type_list_pop m_pop ho hbase hline
theorem xm_clear (F : Fx T g W C X) (m : Bool) (ho : SE g W C X o co) (hbase : attributeBase o "clear" X.env (eval o X.env) = eval o X.env := by rfl) (hline : (apos.endLine == pos.line) = true := by rfl) :
    SE g W C X (.Call (.Attribute o "clear" apos) [] [] pos) (.bme co .clear m []) := se_bme0 F.K (bmL (isL (.inr (.inr (.inr rfl))))) PySem.F.plainAttrs_list PySem.F.slot_list_clear PySem.F.type_list_clear m_clear ho hbase hline
end
end
end WT
set_option maxRecDepth 100000
set_option autoImplicit false
/-! The rules, statements; defs; the end. -/
namespace WT
noncomputable section
open PySem PySem.Spec PyProof.Rows L2

section
variable {T : Tb} {g : Gx} {W : WX} {C : Ctx} {X : Cx} {a b c e o : Expr} {es : List Expr} {kws : List Keyword} {pos pos' p p2 apos tpos : Pos} {ca cb cc ce co ci : CE} {cs : List CE} {x : Str} {m : Bool} {tg : Expr}
/-! ### comprehensions, iterables, targets -/
abbrev Blk (X : Cx) (P : Cx → Prop) (sc : Scope) : Prop := ∀ (s : Shared) (H : Hp) (D : Addr) (cl : List (Str × Addr)) (fp : List Addr), P (X.blk s H sc (compEnvC sc cl D X.env) fp)
theorem x_lc (F : Fx T g W C X) (m : Bool) (own : List (Str × Nat)) {t : CT} {it : CI} {elt iter : Expr} {sc : Scope} {ifs : List Expr} {cifs : List CE} (hi : SI g W C X tg iter it) (hg : Blk X (fun X => PG X tg (tG g t)) sc) (ht : Blk X (fun X => PTs X ifs (tRt g W0 (tst C cifs))) sc) (he : Blk X (fun X => SE g W0 C X elt ce) sc)
    (ok : blkC X.N X.env.scope sc own = true := by decide +kernel) (hct : (ctS t).all (fun j => (own.map (·.2)).contains j) = true := by rfl) (hs : ∀ x, foldedSetIterable iter X.env x = pure x := by intro _; rfl) : SE g W C X (.ListComp elt [⟨tg, iter, ifs, 0⟩] sc pos) (.lc m (own.map (·.2)) ce t it cifs) :=
  se_lc F.calm F.nd hi (blkOk_by ok) (fun j hj => List.contains_iff_mem.mp (ball hct j hj)) hg ht he hs
theorem y_lc (F : Fx T g W C X) (i : Nat) (m : Bool) (own : List (Str × Nat)) {t : CT} {it : CI} {elt iter : Expr} {sc : Scope} {ifs : List Expr} {cifs : List CE} {py : Pos} (hi : SI g W C X tg iter it) (hg : Blk X (fun X => PG X tg (tG g t)) sc) (ht : Blk X (fun X => PTs X ifs (tRt g W0 (tst C cifs))) sc) (he : Blk X (fun X => SE g W0 C X elt ce) sc)
    (hy : X.N[i]? = some x := by rfl) (hyl : X.env.scope.names.lookup x = some .local := by rfl) (hsw : swapsWith (.ListComp elt [⟨tg, iter, ifs, 0⟩] sc p) (some (.Name x py)) pos.line X.env = pure true := by exact sw_true rfl rfl rfl (by decide +kernel))
    (ok : blkC X.N X.env.scope sc own = true := by decide +kernel) (hct : (ctS t).all (fun j => (own.map (·.2)).contains j) = true := by rfl) (hs : ∀ x, foldedSetIterable iter X.env x = pure x := by intro _; rfl) : SS1 g W C X (.Assign [.Name x py] (.ListComp elt [⟨tg, iter, ifs, 0⟩] sc p) pos) (.asg (.nm i) (.lc m (own.map (·.2)) ce t it cifs)) :=
  s_setLc F.calm F.nd hy hyl hsw hi (blkOk_by ok) (fun j hj => List.contains_iff_mem.mp (ball hct j hj)) hg ht he hs
theorem z_of (F : Fx T g W C X) (he : SE g W C X e ce) : SI g W C X tg e (.of ce) := si_of F.K he
theorem z_r1 (F : Fx T g W C X) (j : Nat) (ha : SE g W C X a ca) (hj : T.frees[j]? = some ("range" : Str) := by rfl) (hg : Gl X "range" := by rfl) (hs : starEach [a] X.env = [(false, eval a X.env)] := by rfl) (hs2 : starEach [a] X.env = (false, eval a X.env) :: starEach [] X.env := by rfl) : SI g W C X tg (.Call (.Name "range" p) [a] [] pos) (.rng1 ca) := si_rng1 (m := false) hg (F.wd.fre j hj) ha hs hs2
theorem z_r2 (F : Fx T g W C X) (j : Nat) (ha : SE g W C X a ca) (hb : SE g W C X b cb) (hj : T.frees[j]? = some ("range" : Str) := by rfl) (hg : Gl X "range" := by rfl) (hs : starEach [a, b] X.env = [(false, eval a X.env), (false, eval b X.env)] := by rfl) (hs2 : starEach [b] X.env = [(false, eval b X.env)] := by rfl)
    (hs3 : starEach [a, b] X.env = (false, eval a X.env) :: starEach [b] X.env := by rfl) (hs4 : starEach [b] X.env = (false, eval b X.env) :: starEach [] X.env := by rfl) : SI g W C X tg (.Call (.Name "range" p) [a, b] [] pos) (.rng2 ca cb) := si_rng2 hg (F.wd.fre j hj) ha hb hs hs2 hs3 hs4
theorem z_en (F : Fx T g W C X) (j : Nat) {elts : List Expr} {kk : Nat} (ha : SE g W C X a ca) (hj : T.frees[j]? = some ("enumerate" : Str) := by rfl) (hg : Gl X "enumerate" := by rfl) (hs : starEach [a] X.env = [(false, eval a X.env)] := by rfl) (hs2 : starEach [a] X.env = (false, eval a X.env) :: starEach [] X.env := by rfl) : SI g W C X (.Tuple elts kk tpos) (.Call (.Name "enumerate" p) [a] [] pos) (.enm ca) := si_enum F.K hg (F.wd.fre j hj) ha hs hs2
theorem z_zip (F : Fx T g W C X) (j : Nat) {elts : List Expr} {kk : Nat} (ha : SE g W C X a ca) (hb : SE g W C X b cb) (hj : T.frees[j]? = some ("zip" : Str) := by rfl) (hg : Gl X "zip" := by rfl) (hs3 : starEach [a, b] X.env = (false, eval a X.env) :: starEach [b] X.env := by rfl) (hs4 : starEach [b] X.env = (false, eval b X.env) :: starEach [] X.env := by rfl)
    (hpl : (backTo pos (starEach [b] X.env)).any (·.1) = false := by rfl) : SI g W C X (.Tuple elts kk tpos) (.Call (.Name "zip" p) [a, b] [] pos) (.zip ca cb) := si_zip F.K hg (F.wd.fre j hj) ha hb hs3 hs4 hpl
theorem g_nm (F : Fx T g W C X) (i : Nat) (hi : X.N[i]? = some x := by rfl) (hx : Loc X.env.scope x := by first | exact Or.inl rfl | exact Or.inr rfl) (hf : X.fn x = true ∨ X.env.scope.names.lookup x = some .local := by first | exact Or.inr rfl | exact Or.inl rfl) : PG X (.Name x p) (tG g (.nm i)) := sg_name F.nd hi hx hf
theorem g_nil : PGs X [] (tGs g []) := sgs_nil
theorem g_cons {t : CT} {ts : List CT} (h1 : PG X e (tG g t)) (h2 : PGs X es (tGs g ts)) (hs : (assignEach (e :: es) X.env).map (·.2) = assign e X.env :: (assignEach es X.env).map (·.2) := by rfl) : PGs X (e :: es) (tGs g (t :: ts)) := sgs_cons h1 h2 hs
theorem g_tup (F : Fx T g W C X) {k : Nat} {ts : List CT} (h : PGs X es (tGs g ts)) (hn : (assignEach es X.env).length = ts.length := by rfl) (hst : (assignEach es X.env).findIdx? (·.1) = none := by rfl) : PG X (.Tuple es k p) (tG g (.tup ts)) := sg_tup F.K F.calm h hn hst
/-! ### statements -/
theorem y_expr (he : SE g W C X e ce) (hs : swapsWith e none pos.line X.env = pure false := by rfl) : SS1 g W C X (.Expr e pos) (.expr ce) := s_expr he hs
theorem y_set (F : Fx T g W C X) (i : Nat) (he : SE g W C X e ce) (hi : X.N[i]? = some x := by rfl) (hx : Loc X.env.scope x := by first | exact Or.inl rfl | exact Or.inr rfl) (hs : swapsWith e (some (.Name x pos')) pos.line X.env = pure false := by rfl) (hf : X.fn x = true ∨ X.env.scope.names.lookup x = some .local := by first | exact Or.inr rfl | exact Or.inl rfl) :
    SS1 g W C X (.Assign [.Name x pos'] e pos) (.asg (.nm i) ce) := s_set F.nd hi hx he hs hf
theorem y_asg {t : CT} (he : SE g W C X e ce) (hg : PG X tg (tG g t)) (hs : swapsWithSole [tg] e pos.line X.env = pure false := by rfl) (hw : swappedStores [tg] e X.env = pure none := by rfl) (h1 : (assignEach [tg] X.env).map (·.2) = [assign tg X.env] := by rfl) : SS1 g W C X (.Assign [tg] e pos) (.asg t ce) := s_asg he hg hs hw h1
theorem y_par (F : Fx T g W C X) (i j : Nat) {y : Str} {px py pt : Pos} {kt k2 : Nat} {pt2 : Pos} (ha : SA g W C X [a, b] cs) (hi : X.N[i]? = some x := by rfl) (hj : X.N[j]? = some y := by rfl) (hij : i ≠ j := by decide)
    (hx : X.env.scope.names.lookup x = some .local := by rfl) (hy : X.env.scope.names.lookup y = some .local := by rfl) (hl : cs.length = 2 := by rfl)
    (hw : swappedStores [.Tuple [.Name x px, .Name y py] kt pt] (.Tuple [a, b] k2 pt2) X.env = pure (some [x, y]) := by rfl)
    (hs : swapsWithSole [.Tuple [.Name x px, .Name y py] kt pt] (.Tuple [a, b] k2 pt2) pos.line X.env = pure false := by rfl) :
    SS1 g W C X (.Assign [.Tuple [.Name x px, .Name y py] kt pt] (.Tuple [a, b] k2 pt2) pos) (.asg (.tup [.nm i, .nm j]) (.tup cs)) := s_par F.calm F.nd hi hj hij hx hy ha hl hw hs
theorem y_par3 (F : Fx T g W C X) (i j l : Nat) {y z : Str} {px py pz pt : Pos} {kt k2 : Nat} {pt2 : Pos} (ha : SA g W C X [a, b, c] cs) (hi : X.N[i]? = some x := by rfl) (hj : X.N[j]? = some y := by rfl) (hk : X.N[l]? = some z := by rfl) (hij : i ≠ j := by decide) (hil : i ≠ l := by decide) (hjl : j ≠ l := by decide)
    (hx : X.env.scope.names.lookup x = some .local := by rfl) (hy : X.env.scope.names.lookup y = some .local := by rfl) (hz : X.env.scope.names.lookup z = some .local := by rfl) (hl : cs.length = 3 := by rfl)
    (hw : swappedStores [.Tuple [.Name x px, .Name y py, .Name z pz] kt pt] (.Tuple [a, b, c] k2 pt2) X.env = pure (some [x, y, z]) := by rfl)
    (hs : swapsWithSole [.Tuple [.Name x px, .Name y py, .Name z pz] kt pt] (.Tuple [a, b, c] k2 pt2) pos.line X.env = pure false := by rfl) :
    SS1 g W C X (.Assign [.Tuple [.Name x px, .Name y py, .Name z pz] kt pt] (.Tuple [a, b, c] k2 pt2) pos) (.asg (.tup [.nm i, .nm j, .nm l]) (.tup cs)) := s_par3 F.calm F.nd hi hj hk hij hil hjl hx hy hz ha hl hw hs
theorem y_seti (F : Fx T g W C X) (ho : SE g W C X a co) (hi : SE g W C X b ci) (he : SE g W C X e ce) (hs : swapsWithSole [.Subscript a b tpos] e pos.line X.env = pure false := by rfl) (hw : swappedStores [.Subscript a b tpos] e X.env = pure none := by rfl) (h1 : (assignEach [.Subscript a b tpos] X.env).map (·.2) = [assign (.Subscript a b tpos) X.env] := by rfl)
    (has : ∀ v, assign (.Subscript a b tpos) X.env v = (do
      let ov ← holding [v] (eval a X.env)
      let iv ← holding [v, ov] (eval b X.env)
      standAt tpos
      holding [v, ov, iv] (setItem ov iv v)
      release [v, ov, iv] []) := by intro _; rfl) : SS1 g W C X (.Assign [.Subscript a b tpos] e pos) (.seti co ci ce) := s_seti F.un ho hi he hs hw h1 has
theorem y_setf (F : Fx T g W C X) (j : Nat) (ho : SE g W C X o co) (he : SE g W C X e ce) (hx : g.nm j = x := by rfl) (hj : decide (j < T.nms.length) = true := by rfl) (hs : swapsWith e (some (.Attribute o x pos')) pos.line X.env = pure false := by rfl) : SS1 g W C X (.Assign [.Attribute o x pos'] e pos) (.setf co j ce) := by
  subst hx
  exact s_setf (F.fld hj).inj (F.fld hj).fld ho he hs
theorem y_aug (F : Fx T g W C X) (i : Nat) {op : Operator} (he : SE g W C X e ce) (hop : op = .Add ∨ op = .Sub := by first | exact Or.inl rfl | exact Or.inr rfl) (hi : X.N[i]? = some x := by rfl) (hx : Loc X.env.scope x := by first | exact Or.inl rfl | exact Or.inr rfl) (hf : X.fn x = true ∨ X.env.scope.names.lookup x = some .local := by first | exact Or.inr rfl | exact Or.inl rfl) : SS1 g W C X (.AugAssign (.Name x pos') op e pos) (.aug i op ce) := s_aug hop F.nd hi hx he hf
theorem y_for (F : Fx T g W C X) {t : CT} {it : CI} {body : List Stmt} {cbd : List CS} (hi : SI g W C X tg e it) (hg : PG X tg (tG g t)) (hb : SSs g W C X body cbd) (hs : ∀ x, foldedSetIterable e X.env x = pure x := by intro _; rfl) : SS1 g W C X (.For tg e body [] pos) (.for_ t it cbd) := s_for F.pa F.calm hi hg hb hs
theorem y_whl (F : Fx T g W C X) {body : List Stmt} {cbd : List CS} (hc : ST g W C X c cc) (hb : SSs g W C X body cbd) : SS1 g W C X (.While c body [] pos) (.whl cc cbd) := s_whl F.pa hc hb
/-! ### exceptions -/
theorem pmkM (F : Fx T g W C X) {q : Addr} (hq : PySem.W.excIn X.K q He.veBase "ValueError.__new__" = true) (gC : X.mg x = some (.ref q)) (kC : PySem.W.keepIn X.K (.ref q) = true) (r : Raises X (.ref q)) (hg : Gl X x) (ha : SE g W C X e ce) (hd : (x == ("__debug__" : Str)) = false) (he : starEach [e] X.env = (false, eval e X.env) :: starEach [] X.env) (hpl : (backTo pos (starEach [] X.env)).any (·.1) = false) :
    PMk X (.Call (.Name x p) [e] [] pos) (fun σ H Q => tR g W (ev C ce) σ H fun _ H1 => Q (.ref q) none H1) := by
  intro pins s σ H Q I h
  refine wpAny_Call_Name_kw (ld_glob I hg gC ?_ hd)
  refine PySem.W.callWith_K (h₀ := X.base) I.ok.mod.kin kC (thn ((pa_cons ha pa_nil he).run pos pins s σ H (fun vs H1 => vs.length = 1 ∧ Q (.ref q) none H1) I ?_) fun us s1 ⟨vs, H1, I1, r1, hl, q1⟩ => ⟨I1.kIn, ?_⟩) he hpl
  · obtain ⟨ρ, M, ε, T', R, h⟩ := h
    exact ⟨ρ, M, ε, T', R, h.imp fun p ρ M H R h v rv => ⟨rfl, h v rv⟩⟩
  · show wpAny _ _ (PySem.call (.ref q) us) _ _ _
    have l1 := r1.length
    obtain ⟨bm, N, nm, qn, bs, hdct, sn, sub, ab, col, dd, k0, k1, k2, k3, k5, mN, hC, hN, hni, Tl⟩ := exc_obj I1.kIn hq
    refine wpAny_call_exc_subT PySem.F.excBase_ValueError Tl hC hN hni (fun h' e hm => mk_of I1 hm r q1 (I1.hok.gone hm.new)) (by rw [← l1, hl, sizeLine_eq]; decide)
theorem y_raisM (F : Fx T g W C X) (j k c : Nat) (ha : SE g W C X e ce) (hj : T.glos[j]? = some x := by rfl) (hk : T.xm[k]? = some c := by rfl) (hc : T.cns[c]? = some x := by rfl) (hG : T.G.excs.lookup c = some none := by rfl) (hg : Gl X x := by rfl) (hd : (x == ("__debug__" : Str)) = false := by decide +kernel) (he : starEach [e] X.env = (false, eval e X.env) :: starEach [] X.env := by rfl) (hpl : (backTo pos (starEach [] X.env)).any (·.1) = false := by rfl) :
    SS1 g W C X (.Raise (some (.Call (.Name x p) [e] [] pos)) none pos') (.rais c [ce]) := by
  have hm := List.mem_of_getElem? hk
  have f := F.wd.f.ex c (List.mem_append_left _ hm)
  have hq := F.wd.f.xm c hm
  have e1 : (T.gx X.K).ca c = He.ga X.K x := by
    show He.ga X.K (T.cns.getD c "?") = _
    rw [List.getD, hc]
    rfl
  have gC := F.wd.glo j hj
  rw [← e1] at gC
  rw [← F.hg] at f hq gC
  exact s_raisM F.calm F.tk (by rw [F.cG]; exact hG) (pmkM F hq gC f.kp (raises_own f.c.hs f.ty) hg ha hd he hpl)
theorem y_raisV (F : Fx T g W C X) (j k c i jn : Nat) (ha : SE g W C X e ce) (hj : T.glos[j]? = some x := by rfl) (hk : T.xv[k]? = some (c, i) := by rfl) (hc : T.cns[c]? = some x := by rfl) (hG : T.G.excs.lookup c = some (some [jn]) := by rfl) (hg : Gl X x := by rfl) (hd : (x == ("__debug__" : Str)) = false := by decide +kernel) (he : starEach [e] X.env = (false, eval e X.env) :: starEach [] X.env := by rfl) (hpl : (backTo pos (starEach [] X.env)).any (·.1) = false := by rfl) :
    SS1 g W C X (.Raise (some (.Call (.Name x p) [e] [] pos)) none pos') (.rais c [ce]) := by
  have hm := List.mem_of_getElem? hk
  have f := F.wd.f.ex c (List.mem_append_right _ (List.mem_map.mpr ⟨_, hm, rfl⟩))
  have hq := F.wd.f.xv _ hm
  obtain ⟨j', n, hG', Fn, hb⟩ := F.xi _ hm
  have hG' : T.G.excs.lookup c = some (some [j']) := hG'
  rw [hG] at hG'
  cases hG'
  have e1 : (T.gx X.K).ca c = He.ga X.K x := by
    show He.ga X.K (T.cns.getD c "?") = _
    rw [List.getD, hc]
    rfl
  have gC := F.wd.glo j hj
  rw [← e1] at gC
  have ox := oexB_ok hq.1 f
  obtain ⟨n2, _, hr, _⟩ := F.lv
  rw [← F.hg] at ox hq gC Fn hb
  refine s_raisV F.calm F.tk (by rw [F.cG]; exact hG) (pmk_oex ox hq.2.1 hq.2.2 Fn (hr.mono (by omega)) hb .nil (fun _ _ _ _ _ _ _ z => (cx_never z).elim) hg gC (pa_cons ha pa_nil he) hd he hpl)
theorem y_try (F : Fx T g W C X) (j c i : Nat) {n : Str} {body suite : List Stmt} {b0 : Stmt} {np : Pos} {cbd csu : List CS}
    (hb : ∀ (W' : WX) (pn : List (Addr × Obj)) (xe : Value → Shared → Prop), Fx T g W' C (X.tr pn xe) → SSs g W' C (X.tr pn xe) body cbd) (hsu : ∀ (a : Addr) (pn : List (Addr × Obj)), SSs g (fun _ _ _ _ => False) C (X.suite a pn) (b0 :: suite) csu)
    (hj : T.glos[j]? = some x := by rfl) (hc : T.cns[c]? = some x := by rfl) (hx : (T.xm ++ T.xv.map (·.1)).contains c = true := by rfl) (hst : X.stack = X.env :: X.outer := by rfl) (hfr : X.env.frame = some X.env.locals := by rfl) (hex : X.ex = [] := by rfl) (hi : X.N[i]? = some n := by rfl) (hln : X.env.kindOf n = some .local := by rfl) (hg : Gl X x := by rfl) (hd : (x == ("__debug__" : Str)) = false := by decide +kernel) : SS1 g W C X (.Try body [.ExceptHandler (some (.Name x np)) (some n) (b0 :: suite) pos'] [] [] pos) (.tryx cbd c (some i) csu) := by
  have e1 : g.ca c = He.ga X.K x := by
    rw [F.hg]
    show He.ga X.K (T.cns.getD c "?") = _
    rw [List.getD, hc]
    rfl
  have gC := F.wd.glo j hj
  rw [← e1] at gC
  refine s_try hst hfr hex F.nd hi hln ⟨hg, hd, .inl gC⟩ F.tk (fun d l h => ?_) (fun W' pn xe tk pa => hb W' pn xe (F.tr tk pa)) hsu
  rw [F.cG] at h
  unfold clsOk at h
  split at h
  · rename_i h0
    have h0 : (T.G.excs.lookup d).isSome = true := eq_of_beq h0
    obtain ⟨b, hb'⟩ := Option.isSome_iff_exists.mp h0
    have hd' := F.wd.t.exc _ (lookup_in hb')
    have z := F.wd.f.exm d hd' c (List.contains_iff_mem.mp hx)
    rw [h] at z
    have z := of_decide_eq_true z
    rw [← F.hg] at z
    exact z
  · cases h
theorem y_nil : SSs g W C X [] [] := s_nil
theorem y_cons {s : Stmt} {ss : List Stmt} {q : CS} {qs : List CS} (h1 : SS1 g W C X s q) (h2 : SSs g W C X ss qs) : SSs g W C X (s :: ss) (q :: qs) := s_cons h1 h2
end

/-! ### binding -/
theorem fill_nones' {α : Type} {n : Nat} {xs : List α} (h : xs.length = n) : fill (List.replicate n none) xs = xs := by
  subst h
  exact fill_nones xs
theorem split0 {α : Type} {us ws : List α} {n : Nat} (h : us.length + ws.length = n) (h2 : ws.length = 0) : us.length = n ∧ ws = [] := ⟨by omega, List.length_eq_zero_iff.mp h2⟩
theorem gb_of {K : PySem.W.Frag} {D : Def} {fd : FuncData} {ks : List Str} (is : D.E.Is K fd) (h1 : D.E.dfl = [])
    (h : ∀ (kV doc pm : Value) (an : Option Addr) (cdv ct : Value) (us ws : List Value), us.length + ws.length = D.ps.length → ws.length = ks.length → bindArgs (PySem.W.fnOf D.E.name D.E.qual D.E.params D.E.body D.E.scope .none kV doc pm an cdv ct) ⟨us, ks.zip ws⟩ = pure (D.ps.zip (us ++ ws))) : GB K fd D.ps (posN D) ks := fun s us ws hk hl hw => by
  obtain ⟨oc, od, dV, kV, doc, pm, an, cdv, ct, osl, rfl, lk, hcd, hD, hK⟩ := is.ex
  have hl : us.length + ws.length = D.ps.length := by rw [hl]; exact holes_none
  have e : (posN D).map (·.map (·.u)) = List.replicate D.ps.length none := by unfold posN; rw [List.map_replicate]; rfl
  rw [e, fill_nones' (by rw [List.length_append]; exact hl)]
  rcases hD with ⟨_, rfl⟩ | ⟨e, _⟩
  · exact .of_eq (h kV doc pm an cdv ct us ws hl hw)
  · unfold DefE.dvs at e
    rw [h1] at e
    exact absurd rfl e
theorem fdOf_is {K : PySem.W.Frag} {d : DefE} {fd : FuncData} (is : d.Is K fd) : fdOf K (d.ad K) = fd := by
  obtain ⟨oc, od, dV, kV, doc, pm, an, cdv, ct, osl, e, lk, _⟩ := is.ex
  unfold fdOf
  rw [lk]
/-- one premise a def, in order -/
def AllD (Q : Nat → Def → Prop) : Nat → List Def → Prop
  | _, [] => True
  | n, D :: r => Q n D ∧ AllD Q (n + 1) r
theorem allD {Q : Nat → Def → Prop} : ∀ {l : List Def} {n : Nat}, AllD Q n l → ∀ (i : Nat) (D : Def), l[i]? = some D → Q (n + i) D
  | [], _, _, i, D, h => by simp at h
  | E :: r, n, ⟨h1, h2⟩, 0, D, h => by
    have h : some E = some D := h
    cases h
    exact h1
  | E :: r, n, ⟨h1, h2⟩, i + 1, D, h => by
    have h : r[i]? = some D := by simpa using h
    have := allD h2 i D h
    rwa [show n + (i + 1) = n + 1 + i by omega]
/-! ### defs -/
section
variable {T : Tb} {P : Program} {w : World} {K : PySem.W.Frag} {mg : Str → Option Value} {base : Heap} {n : Nat}
abbrev BodyOk (T : Tb) (P : Program) (w : World) (K : PySem.W.Frag) (mg : Str → Option Value) (base : Heap) (n : Nat) (D : Def) : Prop :=
  ∀ (f : Addr) (cdv : Value) (A : Around) (outer : List PySem.Env) (s : Shared) (H : Hp) (E : XK), Fx T (T.gx K) (fun cls d _ H => E cls d H) ⟨call T.G T.w n, T.w, T.G⟩ (cxOf (L2.CX P w) P w K mg base D.N D.E.qual D.E.scope f cdv A outer s H E) →
    SSs (T.gx K) (fun cls d _ H => E cls d H) ⟨call T.G T.w n, T.w, T.G⟩ (cxOf (L2.CX P w) P w K mg base D.N D.E.qual D.E.scope f cdv A outer s H E) D.E.body D.d.body
theorem def_ok (wd : Wd T P w K mg base) (gb : Gbs T K) (xi : Xis T P w K mg base) (ih : ∀ m, m ≤ n → Lv T P w K mg base m) {i : Nat} {D : Def} (hD : T.defs[i]? = some D) (hG : T.G.fns[i]? = some (.fn D.d)) (S : FnScope D.N D.ps D.E.scope) (hns : D.N.length = D.d.ns) (hnp : D.ps.length = D.d.np) (hb : BodyOk T P w K mg base n D) :
    FnG P w K mg base (L2.CX P w) (2 * (n + 1) + 2) ((T.gx K).fa i) (fdOf K ((T.gx K).fa i)) D.ps (spOf (T.gx K) (call T.G T.w (n + 1)) i) := by
  have is := wd.is i D hD
  have ea : (T.gx K).fa i = D.E.ad K := by show (match T.defs[i]? with | some D => D.E.ad K | none => 0) = _; rw [hD]
  rw [ea] at is ⊢
  have kp := is.kp
  obtain ⟨oc, od, dV, kV, doc, pm, an, cdv, ct, osl, e, lk, hcd, _, _⟩ := is.ex
  rw [e] at lk ⊢
  refine fn_keeps (k := 2 * n + 3) (d := D.d) (C := ⟨call T.G T.w n, T.w, T.G⟩) lk hcd S ?_ hns hnp fun A outer s H E hr hgd tk => hb _ cdv A outer s H E ⟨wd, rfl, gb, xi, ⟨n, rfl, hr, ih⟩, rfl, S.nd, hgd, tk, passes_of rfl⟩
  funext as M
  show (match T.G.fns[i]? with
    | some d => runFn ⟨call T.G T.w n, T.w, T.G⟩ d as M
    | none => .stuck) = _
  rw [hG]
/-- what is told of each def -/
structure DefOk (T : Tb) (P : Program) (w : World) (K : PySem.W.Frag) (mg : Str → Option Value) (base : Heap) (i : Nat) (D : Def) : Prop where
  fn : T.G.fns[i]? = some (.fn D.d)
  sc : FnScope D.N D.ps D.E.scope
  ns : D.N.length = D.d.ns
  np : D.ps.length = D.d.np
  body : ∀ n, BodyOk T P w K mg base n D
theorem no_ok {i : Nat} {D : Def} (h : T.G.fns[i]? = some .no) : FnG P w K mg base (L2.CX P w) (2 * (n + 1) + 2) ((T.gx K).fa i) (fdOf K ((T.gx K).fa i)) D.ps (spOf (T.gx K) (call T.G T.w (n + 1)) i) := by
  have e : ∀ as M, call T.G T.w (n + 1) i as M = .stuck := fun as M => by
    show (match T.G.fns[i]? with
      | some d => runFn ⟨call T.G T.w n, T.w, T.G⟩ d as M
      | none => .stuck) = _
    rw [h]
    rfl
  exact ⟨fun _ _ _ _ ⟨_, _, _, _, _, _, z⟩ => by rw [e] at z; exact z.elim, fun _ _ _ _ _ _ _ _ _ _ _ _ _ _ ⟨_, _, _, _, _, _, z⟩ => by rw [e] at z; exact z.elim⟩
theorem all_ok (wd : Wd T P w K mg base) (gb : Gbs T K) (xi : Xis T P w K mg base) (h : ∀ (i : Nat) (D : Def), T.defs[i]? = some D → DefOk T P w K mg base i D ∨ T.G.fns[i]? = some .no) (n : Nat) : Lv T P w K mg base n :=
  lv_all (fun n ih i D hD => (h i D hD).elim (fun q => def_ok wd gb xi ih hD q.fn q.sc q.ns q.np (q.body n)) no_ok) n
/-- the law's promise, from the interpreter's answer -/
theorem law_sp {i n : Nat} {K : PySem.W.Frag} {H : Hp} {a : Addr} {ns : List Int} (hO : LO [] [] H K a (ns.map V.int)) (hl : ns.length ≤ 63) (h : ∃ M, call T.G T.w n i [.lst (ns.map .int)] [] = .ok (.bl true) M) :
    spOf (T.gx K) (call T.G T.w n) i [.ref a] H (fun v _ => v = .bl true) fun _ _ _ => False := by
  obtain ⟨M, h⟩ := h
  have hints : ∀ l : List Int, RVs (T.gx K) [] [] H (l.map PV.int) (l.map V.int) := fun l => by
    induction l with
    | nil => exact .nil
    | cons z r ih => exact .cons (.ofInt z) ih
  refine ⟨[], [], [], [.lst (ns.map .int)], ⟨rfl, rfl, fun i p e => by simp at e, fun q hq => by simp at hq, fun i a c e => by simp at e, fun i j a c d e => by simp at e⟩, .cons ?_ .nil, ?_⟩
  · unfold RV
    exact ⟨by rw [List.length_map, sizeLine_eq]; omega, a, _, rfl, hO, hints ns⟩
  · rw [h]
    exact fun ρ H R v rv => rv.bl
end
/-- an exception's own __init__ -/
theorem xi_of {T : Tb} {P : Program} {w : World} {K : PySem.W.Frag} {mg : Str → Option Value} {base : Heap} (wd : Wd T P w K mg base) {q : Nat × Nat} (hq : q ∈ T.xv) {j : Nat} {f n B m : Str} {k g0 : Nat} {p1 p2 p3 p4 p5 p6 p7 p8 p9 p10 : Pos} {pl : PySem.Env → Sem Bool} {D : Def} (hD : T.defs[q.2]? = some D) (hx : T.G.excs.lookup q.1 = some (some [j])) (hf : (T.gx K).nm j = f)
    (hb : D.E.body = xbody B f n m k p1 p2 p3 p4 p5 p6 p7 p8 p9 p10) (hd : D.E.dfl = []) (hkw : D.E.kwd = []) (S : FnScope ["self", n] ["self", n] D.E.scope) (hfx : (q.1, j) ∈ T.G.xflds) (hB : T.glos[g0]? = some B) (hB0 : (T.gx K).ca 0 = He.ga K B) (hBg : ∀ X : Cx, X.env.scope = D.E.scope → X.mg = mg → Gl X B)
    (hBd : (B == ("__debug__" : Str)) = false) (hn : Vis D.E.scope n) (hs : Vis D.E.scope "self") (hnd : (n == ("__debug__" : Str)) = false) (hncd : (n == ("__classdict__" : Str)) = false)
    (hc : ∀ env : PySem.Env, eval (.Call (.Attribute (.Name B p1) "__init__" p2) [.Name "self" p3, .Constant (.str m) k p4] [] p5) env = (do
      let ov ← eval (.Name B p1) env
      standAt p2.atName
      let (f, first) ← holding [ov] (getMethod ov "__init__" (pl env))
      callWith p5 f first (backTo p5 (starEach [.Name "self" p3, .Constant (.str m) k p4] env)) (backToKw p5 (keywordEach [] env))))
    (hbind : ∀ (kV doc pm : Value) (an : Option Addr) (cdv ct : Value) (us : List Value), us.length = 2 → bindArgs (PySem.W.fnOf D.E.name D.E.qual D.E.params D.E.body D.E.scope .none kV doc pm an cdv ct) ⟨us, []⟩ = pure ((["self", n] : List Str).zip us)) :
    ∃ j n, T.G.excs.lookup q.1 = some (some [j]) ∧ FnOk P w K mg base (L2.CX P w) 1 ((T.gx K).fa q.2) (fdOf K ((T.gx K).fa q.2)) ["self", n] (spX ((T.gx K).ca q.1) ((T.gx K).nm j)) ∧ Binds K (fdOf K ((T.gx K).fa q.2)) ["self", n] [] := by
  have is := wd.is q.2 D hD
  have ea : (T.gx K).fa q.2 = D.E.ad K := by show (match T.defs[q.2]? with | some D => D.E.ad K | none => 0) = _; rw [hD]
  have f1 := wd.f.ex q.1 (List.mem_append_right _ (List.mem_map.mpr ⟨_, hq, rfl⟩))
  have ox := oexB_ok (wd.f.xv q hq).1 f1
  have nof := wd.f.xfld _ hfx
  have bs := wd.f.base
  have ne : T.xv.isEmpty = false := by
    cases e : T.xv with
    | nil => rw [e] at hq; cases hq
    | cons _ _ => rfl
  rw [ne, Bool.false_or] at bs
  obtain ⟨cr, cv⟩ := baseB_ok bs
  have gB := wd.glo g0 hB
  rw [← hB0] at gB
  refine ⟨j, n, hx, ?_, ?_⟩
  · rw [ea] at is ⊢
    obtain ⟨oc, od, dV, kV, doc, pm, an, cdv, ct, osl, e, lk, hcd, _, _⟩ := is.ex
    rw [e, hb] at lk ⊢
    rw [hf]
    have nof : PySem.W.findIn K (.ref ((T.gx K).ca q.1)) ((T.gx K).nm j) = some none := nof
    rw [hf] at nof
    exact fnX (j := 0) lk hcd S ox nof gB hBg hBd cr cv hn hs hnd hncd hc
  · obtain ⟨oc, od, dV, kV, doc, pm, an, cdv, ct, osl, e, lk, hcd, hD2, _⟩ := is.ex
    rw [e]
    rcases hD2 with ⟨_, rfl⟩ | ⟨z, _⟩
    · exact .all fun us hl => hbind kV doc pm an cdv ct us hl
    · unfold DefE.dvs at z
      rw [hd] at z
      exact absurd rfl z
/-! ### the end -/
theorem wd_of {T : Tb} {P : Program} {w : World} {K : PySem.W.Frag} {mg : Str → Option Value} {base : Heap} (htb : tbB T = true) (inb : K.In base) (ns : base.Ns mainGlobals mg) (c : SaysW (T.defs.map (·.E)) (wdB T) K) : Wd T P w K mg base :=
  ⟨inb, ns, c.more, htb, fun i D hD => by
    have e : (T.defs.map (·.E))[i]? = some D.E := by rw [List.getElem?_map, hD]; rfl
    obtain ⟨fd, is⟩ := c.def_ e
    have ea : (T.gx K).fa i = D.E.ad K := by show (match T.defs[i]? with | some D => D.E.ad K | none => 0) = _; rw [hD]
    rw [ea, fdOf_is is]
    exact is⟩
theorem walk_T {T : Tb} {l : PySem.W.OpenLaw} {q : Program} {loose : List Str} {XP : (Str → Option Value) → Heap → Prop} {d : DefRec} {i j n m : Nat} {D : Def} {x nm : Str} (htb : tbB T = true) (hl : l.most = some 63) (hdf : d.params.defaults = []) (hD : T.defs[i]? = some D) (hps : D.ps = [x]) (hnm : d.name = nm) (had : D.E.ad = adG nm) (hj : T.glos[j]? = some nm) (h1 : D.E.dfl = [])
    (hb : ∀ (kV doc pm : Value) (an : Option Addr) (cdv ct : Value) (us : List Value), us.length = 1 → bindArgs (PySem.W.fnOf D.E.name D.E.qual D.E.params D.E.body D.E.scope .none kV doc pm an cdv ct) ⟨us, []⟩ = pure (([x] : List Str).zip us))
    (hok : ∀ (P : Program) (w : World) (K : PySem.W.Frag) (mg : Str → Option Value) (base : Heap) (i : Nat) (D : Def), T.defs[i]? = some D → DefOk T P w K mg base i D ∨ T.G.fns[i]? = some .no) (hgb : ∀ K : PySem.W.Frag, (∀ (i : Nat) (D : Def), T.defs[i]? = some D → D.E.Is K (fdOf K ((T.gx K).fa i))) → Gbs T K)
    (hxi : ∀ (P : Program) (w : World) (K : PySem.W.Frag) (mg : Str → Option Value) (base : Heap), Wd T P w K mg base → Xis T P w K mg base) (hr : Room (2 * n + 2) callerA) (plain : ∀ ns : List Int, ns.length ≤ 63 → ∃ M, call T.G T.w n i [.lst (ns.map .int)] [] = .ok (.bl true) M) :
    PySem.W.WalkO q loose XP (hookW m (T.defs.map (·.E)) (wdB T)).says l.row.toRowW d [] (fun f vs => PySem.call f vs) := by
  refine walk_w hl (by rw [sizeLine_eq]; decide) hdf hr (x := x) fun w mg fa h ⟨K, hK, c⟩ Gn hmg => ?_
  have ea : (T.gx K).fa i = D.E.ad K := by show (match T.defs[i]? with | some D => D.E.ad K | none => 0) = _; rw [hD]
  have efa : fa = (T.gx K).fa i := by
    have z := (wdF c.more).glo nm (List.mem_of_getElem? hj)
    have y := PySem.W.mg_of hK Gn (He.eqO_ok z)
    rw [hnm, y] at hmg
    rw [ea, had]
    exact (Value.ref.inj (Option.some.inj hmg)).symm
  subst efa
  have is := (wd_of (P := l.prog) (w := w) htb hK Gn c).is i D hD
  refine ⟨K, fdOf K ((T.gx K).fa i), spOf (T.gx K) (call T.G T.w n) i, hK, fun s u => ?_, fun H a ns hn hO => law_sp hO hn (plain ns hn), fun base inb nsb => ?_⟩
  · obtain ⟨oc, od, dV, kV, doc, pm, an, cdv, ct, osl, e, lk, hcd, hD2, _⟩ := is.ex
    rw [e]
    rcases hD2 with ⟨_, rfl⟩ | ⟨z, _⟩
    · exact .of_eq (hb kV doc pm an cdv ct [u] rfl)
    · unfold DefE.dvs at z
      rw [h1] at z
      exact absurd rfl z
  · have wd : Wd T l.prog w K mg base := wd_of htb inb nsb c
    have z := all_ok wd (hgb K wd.is) (hxi _ _ _ _ _ wd) (hok _ _ _ _ _) n i D hD
    rwa [hps] at z
end
end WT
set_option maxRecDepth 100000
set_option autoImplicit false
/-! Plain laws over the interpreter: tools. -/
namespace WT
noncomputable section
open PySem (Str CmpOp Operator)

/-! ### memories -/
mutual
theorem PV.beq_refl : ∀ a : PV, PV.beq a a = true
  | .tup xs => PV.beqs_refl xs
  | .lst xs => PV.beqs_refl xs
  | .dic xs => PV.beqd_refl xs
  | .ins c xs => by show (c == c && PV.beqf xs xs) = true; rw [PV.beqf_refl xs]; simp
  | .exc c xs => by show (c == c && PV.beqf xs xs) = true; rw [PV.beqf_refl xs]; simp
  | .non => rfl
  | .bl i => by show (i == i) = true; simp
  | .int i => by show (i == i) = true; simp
  | .str i => by show (i == i) = true; simp
  | .ref i => by show (i == i) = true; simp
  | .cls i => by show (i == i) = true; simp
  | .fn i => by show (i == i) = true; simp
  | .ty i => by show (i == i) = true; simp
  | .lk d o k => @decide_eq_true _ (Classical.propDecidable _) ⟨rfl, rfl, rfl⟩
theorem PV.beqs_refl : ∀ a : List PV, PV.beqs a a = true
  | [] => rfl
  | x :: r => by show (PV.beq x x && PV.beqs r r) = true; rw [PV.beq_refl x, PV.beqs_refl r]; rfl
theorem PV.beqd_refl : ∀ a : List (PV × PV), PV.beqd a a = true
  | [] => rfl
  | (k, x) :: r => by show (PV.beq k k && (PV.beq x x && PV.beqd r r)) = true; rw [PV.beq_refl k, PV.beq_refl x, PV.beqd_refl r]; rfl
theorem PV.beqf_refl : ∀ a : List (Nat × PV), PV.beqf a a = true
  | [] => rfl
  | (k, x) :: r => by show (k == k && (PV.beq x x && PV.beqf r r)) = true; rw [PV.beq_refl x, PV.beqf_refl r]; simp
end
theorem Cell.beq_refl (c : Cell) : Cell.beq c c = true := by
  cases c with
  | lst xs => exact PV.beqs_refl xs
  | dic xs => exact PV.beqd_refl xs
  | ins c xs => show (c == c && PV.beqf xs xs) = true; rw [PV.beqf_refl xs]; simp
  | dead => rfl
theorem still_nil {M : Mem} : still [] M = true := rfl
/-- M1 is M, some cells of it changed to what holds nothing young, and more behind -/
inductive Grow (n : Nat) : Mem → Mem → Prop
  | nil (N : Mem) : Grow n [] N
  | same (c : Cell) {M N : Mem} : Grow n M N → Grow n (c :: M) (c :: N)
  | new (c d : Cell) {M N : Mem} : d.lt n = true → Grow n M N → Grow n (c :: M) (d :: N)
theorem Grow.dropOk {n : Nat} {M N : Mem} (h : Grow n M N) : dropOk n M N = true := by
  induction h with
  | nil N => cases N <;> rfl
  | same c h ih => show ((Cell.beq c c || c.lt n) && WT.dropOk n _ _) = true; rw [Cell.beq_refl, ih]; rfl
  | new c d hd h ih => show ((Cell.beq c d || d.lt n) && WT.dropOk n _ _) = true; rw [hd, ih, Bool.or_true]; rfl
theorem Grow.refl {n : Nat} : ∀ {M : Mem}, Grow n M M
  | [] => .nil []
  | c :: r => .same c Grow.refl
theorem Grow.app {n : Nat} {N : Mem} : ∀ {M : Mem}, Grow n M (M ++ N)
  | [] => .nil N
  | c :: r => .same c Grow.app
theorem Grow.appR {n : Nat} (K : Mem) : ∀ {M N : Mem}, Grow n M N → Grow n M (N ++ K)
  | _, _, .nil N => .nil _
  | _, _, .same c h => .same c (h.appR K)
  | _, _, .new c d hd h => .new c d hd (h.appR K)
theorem Grow.set {n i : Nat} {d : Cell} (hd : d.lt n = true) : ∀ {M N : Mem}, Grow n M N → Grow n M (N.set i d)
  | _, _, .nil N => .nil _
  | _, _, .same (M := M) (N := N) c h => by
    cases i with
    | zero => exact .new c d hd h
    | succ i => exact .same c (h.set hd)
  | _, _, .new (M := M) (N := N) c e he h => by
    cases i with
    | zero => exact .new c d hd h
    | succ i => exact .new c e he (h.set hd)
/-- behind a call: what was there, as it is now -/
theorem fin_of {M N : Mem} {v : PV} (hv : v.lt M.length = true) (h : Grow M.length M N) : fin M v N = (v, N.take M.length) := by
  unfold fin
  rw [hv, h.dropOk]
  rfl
theorem fin_self {M : Mem} {v : PV} (hv : v.lt M.length = true) : fin M v M = (v, M) := by
  rw [fin_of hv .refl, List.take_length]
theorem fin_set {M : Mem} {v : PV} {i : Nat} {d : Cell} (hv : v.lt M.length = true) (hd : d.lt M.length = true) : fin M v (M.set i d) = (v, M.set i d) := by
  rw [fin_of hv (Grow.refl.set hd), List.take_of_length_le (by simp)]
/-- something young is handed out: all stays -/
theorem fin_young {M N : Mem} {v : PV} (hv : v.lt M.length = false) : fin M v N = (v, N) := by
  unfold fin
  rw [hv]
  rfl
/-! ### numbers -/
theorem log2_lt {x k : Nat} (h : x < 2 ^ k) (hk : 0 < k) : x.log2 < k := by
  by_cases hx : x = 0
  · subst hx; simpa using hk
  · exact (Nat.log2_lt hx).mpr h
theorem natAbs_lt {i : Int} {k : Nat} (h1 : -(2 ^ k : Int) < i) (h2 : i < 2 ^ k) : i.natAbs < 2 ^ k := by
  have e : ((2 ^ k : Nat) : Int) = (2 : Int) ^ k := by push_cast; rfl
  omega
theorem mulOk_of {i j : Int} {k l : Nat} (hi : i.natAbs < 2 ^ k) (hj : j.natAbs < 2 ^ l) (hk : 0 < k) (hl : 0 < l) (h : k + l ≤ 1000000) : mulOk i j = true := by
  have a := log2_lt hi hk
  have b := log2_lt hj hl
  exact decide_eq_true (by omega)
theorem divOk_of {j : Int} {k : Nat} (h0 : 0 < j) (hj : j.natAbs < 2 ^ k) (hk : 0 < k) (h : k ≤ 9000) : divOk j = true := by
  have b := log2_lt hj hk
  unfold divOk
  rw [Bool.and_eq_true]
  exact ⟨decide_eq_true h0, decide_eq_true (by omega)⟩
theorem pow3Ok {i : Int} {k : Nat} (hi : i.natAbs < 2 ^ k) (hk : 0 < k) (h : k ≤ 1000) : powOk i 3 = true := by
  have b := log2_lt hi hk
  unfold powOk
  rw [Bool.and_eq_true]
  exact ⟨by decide, decide_eq_true (by omega)⟩
/-! ### slices -/
theorem cut_take {α : Type} (xs : List α) (k : Nat) : cut xs none (some (k : Int)) = xs.take k := by
  unfold cut
  rw [HT.sIx_none, HT.sIx_nat, List.drop_zero, Nat.sub_zero]
  rcases Nat.le_total k xs.length with h | h
  · rw [Nat.min_eq_left h]
  · rw [Nat.min_eq_right h, List.take_length, List.take_of_length_le h]
/-! ### one step, as equations -/
section
variable {C : Ctx} {ε : Env} {M : Mem} {α β : Type}
@[simp] theorem r_bind (a : α) (k : α → Mem → Res β) : (Res.ok a M).bind k = k a M := id rfl
@[simp] theorem r_bindS (k : α → Mem → Res β) : (Res.stuck : Res α).bind k = .stuck := id rfl
@[simp] theorem r_bindE (e : PV) (k : α → Mem → Res β) : (Res.err e M : Res α).bind k = .err e M := id rfl
@[simp] theorem r_out (a : α) (k : α → Mem → Out) : (Res.ok a M).out ε k = k a M := id rfl
@[simp] theorem r_outE (e : PV) (k : α → Mem → Out) : (Res.err e M : Res α).out ε k = .er e ε M := id rfl
@[simp] theorem o_nx (k : Env → Mem → Out) : (Out.nx ε M).seq k = k ε M := id rfl
@[simp] theorem o_rt (v : PV) (k : Env → Mem → Out) : (Out.rt v M).seq k = .rt v M := id rfl
@[simp] theorem o_bk (k : Env → Mem → Out) : (Out.bk ε M).seq k = .bk ε M := id rfl
@[simp] theorem o_ct (k : Env → Mem → Out) : (Out.ct ε M).seq k = .ct ε M := id rfl
@[simp] theorem o_er (v : PV) (k : Env → Mem → Out) : (Out.er v ε M).seq k = .er v ε M := id rfl
theorem r_test {v : PV} {b : Bool} (h : truthy M v = some b) : (Res.ok v M).test = .ok b M := by
  show (match truthy M v with
    | some b => Res.ok b M
    | none => .stuck) = _
  rw [h]
@[simp] theorem r_testB (b : Bool) : (Res.ok (.bl b) M).test = .ok b M := id rfl
@[simp] theorem xs_nil : exs C [] ε M = .nx ε M := id rfl
@[simp] theorem xs_cons (s : CS) (r : List CS) : exs C (s :: r) ε M = (ex C s ε M).seq fun ε M => exs C r ε M := id rfl
@[simp] theorem x_expr (e : CE) : ex C (.expr e) ε M = (ev C e ε M).out ε fun _ M => .nx ε M := id rfl
@[simp] theorem x_asgN (i : Nat) (e : CE) : ex C (.asg (.nm i) e) ε M = (ev C e ε M).out ε fun v M => .nx (ε.set i (some v)) M := id rfl
theorem x_asg (t : CT) (e : CE) : ex C (.asg t e) ε M = (ev C e ε M).out ε fun v M => match bindT t v ε M with
  | some ε1 => .nx ε1 M
  | none => .stuck := id rfl
@[simp] theorem x_ret (e : CE) : ex C (.ret e) ε M = (ev C e ε M).out ε fun v M => .rt v M := id rfl
@[simp] theorem x_retN : ex C .retN ε M = .rt .non M := id rfl
@[simp] theorem x_ifs (c : CE) (a b : List CS) : ex C (.ife c a b) ε M = (ev C c ε M).test.out ε fun t M => match t with
  | true => exs C a ε M
  | false => exs C b ε M := id rfl
@[simp] theorem e_lit (v : PV) : ev C (.lit v) ε M = .ok v M := id rfl
@[simp] theorem e_glo (v : PV) : ev C (.glo v) ε M = .ok v M := id rfl
theorem e_loc {i : Nat} {v : PV} (h : ε[i]? = some (some v)) : ev C (.loc i) ε M = .ok v M := by
  show (match ε[i]? with
    | some (some v) => Res.ok v M
    | _ => .stuck) = _
  rw [h]
@[simp] theorem e_loc0 (v : PV) : ev C (.loc 0) (some v :: ε) M = .ok v M := id rfl
@[simp] theorem e_locS (i : Nat) (o : Option PV) : ev C (.loc (i + 1)) (o :: ε) M = ev C (.loc i) ε M := id rfl
@[simp] theorem es_nil : evs C [] ε M = .ok [] M := id rfl
@[simp] theorem es_cons (e : CE) (r : List CE) : evs C (e :: r) ε M = (ev C e ε M).bind fun v M => (evs C r ε M).bind fun vs M => .ok (v :: vs) M := id rfl
@[simp] theorem e_tup (l : List CE) : ev C (.tup l) ε M = (evs C l ε M).bind fun vs M => .ok (.tup vs) M := id rfl
@[simp] theorem e_lstT (l : List CE) : ev C (.lst false l) ε M = (evs C l ε M).bind fun vs M => .ok (.lst vs) M := id rfl
@[simp] theorem e_lstC (l : List CE) : ev C (.lst true l) ε M = (evs C l ε M).bind fun vs M => .ok (.ref M.length) (M ++ [.lst vs]) := id rfl
@[simp] theorem e_dic0 : ev C (.dic false [] []) ε M = .ok (.dic []) M := id rfl
@[simp] theorem e_bin (op : Operator) (m : Bool) (a b : CE) : ev C (.bin op m a b) ε M = (ev C a ε M).bind fun x M => (ev C b ε M).bind fun y M => binop m op x y M := id rfl
@[simp] theorem e_cmp (op : CmpOp) (a b : CE) : ev C (.cmp op a b) ε M = (ev C a ε M).bind fun x M => (ev C b ε M).bind fun y M => cmpop C op x y M := id rfl
@[simp] theorem e_not (a : CE) : ev C (.not a) ε M = (ev C a ε M).test.bind fun b M => .ok (.bl (!b)) M := id rfl
@[simp] theorem e_neg (i : Int) : ev C (.neg (.lit (.int i))) ε M = .ok (.int (-i)) M := id rfl
@[simp] theorem e_ife (c a b : CE) : ev C (.ife c a b) ε M = (ev C c ε M).test.bind fun t M => match t with
  | true => ev C a ε M
  | false => ev C b ε M := id rfl
theorem e_or (a b : CE) : ev C (.or a b) ε M = (ev C a ε M).bind fun x M => match truthy M x with
  | some false => ev C b ε M
  | some true => .ok x M
  | none => .stuck := id rfl
theorem e_and (a b : CE) : ev C (.and a b) ε M = (ev C a ε M).bind fun x M => match truthy M x with
  | some true => ev C b ε M
  | some false => .ok x M
  | none => .stuck := id rfl
@[simp] theorem e_idx (a i : CE) : ev C (.idx a i) ε M = (ev C a ε M).bind fun x M => (ev C i ε M).bind fun y M => getIx M x y := id rfl
@[simp] theorem e_call (f : Nat) (l : List CE) : ev C (.call f l) ε M = (evs C l ε M).bind fun vs M => C.call f vs M := id rfl
@[simp] theorem e_bfn (b : BF) (m : Bool) (l : List CE) : ev C (.bfn b m l) ε M = (evs C l ε M).bind fun vs M => bfn b m vs M := id rfl
@[simp] theorem e_isi (e : CE) (ts : List PV) (b : Bool) : ev C (.isi e ts b) ε M = (ev C e ε M).bind fun x M => ofOpt M ((isAny C.G M x ts).map .bl) := id rfl
@[simp] theorem c_neS (a b : Str) : cmpop C .NotEq (.str a) (.str b) M = .ok (.bl (!(a == b))) M := id rfl
@[simp] theorem c_eqS (a b : Str) : cmpop C .Eq (.str a) (.str b) M = .ok (.bl (a == b)) M := id rfl
@[simp] theorem b_addI (m : Bool) (i j : Int) : binop m .Add (.int i) (.int j) M = .ok (.int (i + j)) M := id rfl
@[simp] theorem b_subI (m : Bool) (i j : Int) : binop m .Sub (.int i) (.int j) M = .ok (.int (i - j)) M := id rfl
theorem b_mulI (m : Bool) {i j : Int} (h : mulOk i j = true) : binop m .Mult (.int i) (.int j) M = .ok (.int (i * j)) M := by
  show guard (mulOk i j) _ = _
  rw [h]
  rfl
theorem b_divI (m : Bool) {i j : Int} (h : divOk j = true) : binop m .FloorDiv (.int i) (.int j) M = .ok (.int (i / j)) M := by
  show guard (divOk j) _ = _
  rw [h]
  rfl
theorem b_modI (m : Bool) {i j : Int} (h : 0 < j) : binop m .Mod (.int i) (.int j) M = .ok (.int (i % j)) M := by
  show guard (decide (0 < j)) _ = _
  rw [decide_eq_true h]
  rfl
theorem b_powI (m : Bool) {i j : Int} (h : powOk i j = true) : binop m .Pow (.int i) (.int j) M = .ok (.int (i ^ j.toNat)) M := by
  show guard (powOk i j) _ = _
  rw [h]
  rfl
@[simp] theorem f_int (m : Bool) (i : Int) : bfn .intOf m [.int i] M = .ok (.int i) M := id rfl
@[simp] theorem f_max (m : Bool) (i j : Int) : bfn .maxOf m [.int i, .int j] M = .ok (.int (if j > i then j else i)) M := id rfl
@[simp] theorem c_ltI (i j : Int) : cmpop C .Lt (.int i) (.int j) M = .ok (.bl (decide (i < j))) M := id rfl
@[simp] theorem c_leI (i j : Int) : cmpop C .LtE (.int i) (.int j) M = .ok (.bl (decide (i ≤ j))) M := id rfl
@[simp] theorem c_gtI (i j : Int) : cmpop C .Gt (.int i) (.int j) M = .ok (.bl (decide (j < i))) M := id rfl
@[simp] theorem c_geI (i j : Int) : cmpop C .GtE (.int i) (.int j) M = .ok (.bl (decide (j ≤ i))) M := id rfl
@[simp] theorem c_eqI (i j : Int) : cmpop C .Eq (.int i) (.int j) M = .ok (.bl (i == j)) M := id rfl
@[simp] theorem c_neI (i j : Int) : cmpop C .NotEq (.int i) (.int j) M = .ok (.bl (!(i == j))) M := id rfl
theorem f_repr (m : Bool) {v : PV} {d : PySem.PyData} (hd : deep M v = some d) (hr : reprOk v d = true) : bfn .repr m [v] M = .ok (.str d.shown) M := by
  show ofOpt M ((deep M v).bind fun d => if reprOk v d then some (.str d.shown) else none) = _
  rw [hd]
  show ofOpt M (if reprOk v d = true then some (.str d.shown) else none) = _
  rw [if_pos hr]
  rfl
theorem i_cell {i k : Nat} {xs : List PV} {v : PV} (h : M[i]? = some (.lst xs)) (hv : xs[k]? = some v) : getIx M (.ref i) (.int (k : Int)) = .ok v M := by
  have hk := (List.getElem?_eq_some_iff.mp hv).1
  have e : rd M (.ref i) = .lst xs := by
    show (match M[i]? with
      | some (.lst xs) => PV.lst xs
      | some (.dic kvs) => .dic kvs
      | some (.ins c fs) => .ins c fs
      | _ => .ref i) = _
    rw [h]
  unfold getIx
  rw [e]
  show ofOpt M (L2.atI xs (k : Int)) = _
  have : L2.atI xs (k : Int) = some v := by
    unfold L2.atI L2.ixN
    rw [if_pos (by omega), if_pos (by omega)]
    simpa using hv
  rw [this]
  rfl
theorem i_lst {k : Nat} {xs : List PV} {v : PV} (hv : xs[k]? = some v) : getIx M (.lst xs) (.int (k : Int)) = .ok v M := by
  have hk := (List.getElem?_eq_some_iff.mp hv).1
  show ofOpt M (L2.atI xs (k : Int)) = _
  have : L2.atI xs (k : Int) = some v := by
    unfold L2.atI L2.ixN
    rw [if_pos (by omega), if_pos (by omega)]
    simpa using hv
  rw [this]
  rfl
theorem x_seti (o i e : CE) : ex C (.seti o i e) ε M = (ev C e ε M).out ε fun v M => (ev C o ε M).out ε fun x M => (ev C i ε M).out ε fun j M => match setIx x j v M with
  | some M1 => .nx ε M1
  | none => .stuck := id rfl
theorem s_cell {i k : Nat} {xs : List PV} {v : PV} (h : M[i]? = some (.lst xs)) (hk : k < xs.length) : setIx (.ref i) (.int (k : Int)) v M = some (M.set i (.lst (xs.set k v))) := by
  show (match M[i]? with
    | some (.lst xs) => (L2.ixN xs.length (k : Int)).map fun j => M.set i (.lst (xs.set j v))
    | some (.dic kvs) => if kvs.length < sline then some (M.set i (.dic (putKV (.int (k : Int)) v kvs))) else none
    | _ => none) = _
  rw [h]
  show (L2.ixN xs.length (k : Int)).map _ = _
  unfold L2.ixN
  rw [if_pos (by omega), if_pos (by omega)]
  simp
end
/-! ### calls -/
theorem call_fn {G : Glo} {w n f : Nat} {d : FDef} {as : List PV} {M : Mem} (h : G.fns[f]? = some (.fn d)) (hl : as.length = d.np) : call G w (n + 1) f as M = finO M (exs ⟨call G w n, w, G⟩ d.body (as.map some ++ List.replicate (d.ns - d.np) none) M) := by
  show (match G.fns[f]? with
    | some d => runFn ⟨call G w n, w, G⟩ d as M
    | none => .stuck) = _
  rw [h]
  show (if as.length = d.np then _ else _) = _
  rw [if_pos hl]
theorem fin_rt {M : Mem} {v : PV} (hv : v.lt M.length = true) : finO M (.rt v M) = .ok v M := by
  show Res.ok v (fin M v M).2 = _
  rw [fin_self hv]
/-- a call whose body hands out v and leaves the memory -/
theorem call_ok {G : Glo} {w n f : Nat} {d : FDef} {as : List PV} {M : Mem} {v : PV} (h : G.fns[f]? = some (.fn d)) (hl : as.length = d.np) (hv : v.lt M.length = true) (hb : exs ⟨call G w n, w, G⟩ d.body (as.map some ++ List.replicate (d.ns - d.np) none) M = .rt v M) : call G w (n + 1) f as M = .ok v M := by
  rw [call_fn h hl, hb, fin_rt hv]
/-- a call whose body changes one cell -/
theorem call_set {G : Glo} {w n f i : Nat} {d : FDef} {as : List PV} {M : Mem} {v : PV} {c : Cell} (h : G.fns[f]? = some (.fn d)) (hl : as.length = d.np) (hv : v.lt M.length = true) (hc : c.lt M.length = true) (hb : exs ⟨call G w n, w, G⟩ d.body (as.map some ++ List.replicate (d.ns - d.np) none) M = .rt v (M.set i c)) : call G w (n + 1) f as M = .ok v (M.set i c) := by
  rw [call_fn h hl, hb]
  show Res.ok v (fin M v (M.set i c)).2 = _
  rw [fin_set hv hc]
/-! ### loops -/
theorem for_inv {t : CT} {body : Env → Mem → Out} (P : Nat → Env → Mem → Prop) : ∀ (xs : List PV) (k : Nat) (ε : Env) (M : Mem), P k ε M →
    (∀ j x ε M, xs[j]? = some x → P (k + j) ε M → ∃ ε1 ε2 M2, bindT t x ε M = some ε1 ∧ (body ε1 M = .nx ε2 M2 ∨ body ε1 M = .ct ε2 M2) ∧ P (k + j + 1) ε2 M2) → ∃ ε' M', forLoop t body [] xs ε M = .nx ε' M' ∧ P (k + xs.length) ε' M'
  | [], k, ε, M, h, _ => ⟨ε, M, rfl, h⟩
  | x :: r, k, ε, M, h, st => by
    obtain ⟨ε1, ε2, M2, h1, h2, h3⟩ := st 0 x ε M rfl h
    obtain ⟨ε', M', h4, h5⟩ := for_inv P r (k + 1) ε2 M2 h3 fun j y ε M hj hp => by
      have := st (j + 1) y ε M (by simpa using hj) (by rwa [show k + (j + 1) = k + 1 + j by omega])
      rwa [show k + (j + 1) + 1 = k + 1 + j + 1 by omega] at this
    refine ⟨ε', M', ?_, by rw [List.length_cons, show k + (r.length + 1) = k + 1 + r.length by omega]; exact h5⟩
    show (match still [] M, bindT t x ε M with
      | true, some ε1 => (match body ε1 M with
        | .nx ε2 M2 => forLoop t body [] r ε2 M2
        | .ct ε2 M2 => forLoop t body [] r ε2 M2
        | .bk ε2 M2 => .nx ε2 M2
        | o => o)
      | _, _ => .stuck) = _
    rw [h1, still_nil]
    rcases h2 with h2 | h2
    · simp only [h2]; exact h4
    · simp only [h2]; exact h4
theorem x_for {C : Ctx} {ε : Env} {M M1 : Mem} {t : CT} {it : CI} {body : List CS} {xs : List PV} (h : evi C it ε M = .ok (xs, []) M1) : ex C (.for_ t it body) ε M = forLoop t (fun ε M => exs C body ε M) [] xs ε M1 := by
  show (evi C it ε M).out ε _ = _
  rw [h]
  rfl
/-! ### comprehensions whose elements change nothing -/
section
variable {C : Ctx} {ε : Env} {M : Mem} {own : List Nat} {t : CT} {tests : Env → Mem → Res Bool} {elt : Env → Mem → Res PV} {f : PV → PV} {p : PV → Bool}
theorem lc_pure_loop : ∀ (xs : List PV) (acc : List PV), acc.length + xs.length ≤ sline →
    (∀ x ∈ xs, ∀ acc, ∃ ε1, bindT t x (wipeE ε own) (M ++ [Cell.lst acc]) = some ε1 ∧ tests ε1 (M ++ [Cell.lst acc]) = .ok (p x) (M ++ [Cell.lst acc]) ∧ (p x = true → elt ε1 (M ++ [Cell.lst acc]) = .ok (f x) (M ++ [Cell.lst acc]))) →
    lcLoop own t tests elt [] ε M.length xs (M ++ [Cell.lst acc]) = .ok () (M ++ [.lst (acc ++ (xs.filter p).map f)])
  | [], acc, _, _ => by simp [lcLoop, still_nil]
  | x :: r, acc, hl, h => by
    obtain ⟨ε1, h1, h2, h3⟩ := h x List.mem_cons_self acc
    have hl' : acc.length + r.length ≤ sline ∧ acc.length < sline := by simp at hl; omega
    have at_ : (M ++ [Cell.lst acc])[M.length]? = some (.lst acc) := by simp
    have set_ : ∀ c, (M ++ [Cell.lst acc]).set M.length c = M ++ [c] := fun c => by simp
    show (match still [] (M ++ [Cell.lst acc]), bindT t x (wipeE ε own) (M ++ [Cell.lst acc]) with
      | true, some ε1 => (match tests ε1 (M ++ [Cell.lst acc]) with
        | .ok true M1 => (match elt ε1 M1 with
          | .ok v M2 => (match M2[M.length]? with
            | some (.lst acc) => (match decide (acc.length < sline) with
              | true => lcLoop own t tests elt [] ε M.length r (M2.set M.length (.lst (acc ++ [v])))
              | false => .stuck)
            | _ => .stuck)
          | _ => .stuck)
        | .ok false M1 => lcLoop own t tests elt [] ε M.length r M1
        | _ => .stuck)
      | _, _ => .stuck) = _
    rw [h1, still_nil]
    cases hp : p x with
    | false =>
      rw [hp] at h2
      simp only [h2]
      rw [lc_pure_loop r acc hl'.1 fun y hy => h y (List.mem_cons_of_mem _ hy)]
      simp [hp]
    | true =>
      rw [hp] at h2
      have h3 := h3 hp
      simp only [h2, h3, at_, decide_eq_true hl'.2, set_]
      rw [lc_pure_loop r (acc ++ [f x]) (by rw [List.length_append, List.length_singleton]; simp only [List.length_cons] at hl; omega) fun y hy => h y (List.mem_cons_of_mem _ hy)]
      simp [hp]
/-- what was made in the last cell is handed out -/
theorem lcEnd_of {xs : List PV} (hv : PV.lts M.length xs = true) : lcEnd false M (M ++ [Cell.lst xs]) = .ok (.lst xs) M := by
  have at_ : (M ++ [Cell.lst xs])[M.length]? = some (.lst xs) := by simp
  unfold lcEnd
  simp only [at_]
  have set_ : (M ++ [Cell.lst xs]).set M.length .dead = M ++ [Cell.dead] := by simp
  rw [set_, fin_of (v := .lst xs) hv Grow.app]
  simp
theorem lts_of : ∀ {n : Nat} {xs : List PV}, (∀ x ∈ xs, x.lt n = true) → PV.lts n xs = true
  | _, [], _ => rfl
  | n, x :: r, h => by
    show (PV.lt n x && PV.lts n r) = true
    rw [h x List.mem_cons_self, lts_of fun y hy => h y (List.mem_cons_of_mem _ hy)]
    rfl
theorem lt_of_lts : ∀ {n : Nat} {xs : List PV}, PV.lts n xs = true → ∀ x ∈ xs, x.lt n = true
  | n, x :: r, h, y, hy => by
    obtain ⟨h1, h2⟩ := Bool.and_eq_true_iff.mp (show (PV.lt n x && PV.lts n r) = true from h)
    rcases List.mem_cons.mp hy with rfl | hy
    · exact h1
    · exact lt_of_lts h2 y hy
/-- [f x for x in xs] -/
theorem e_lc {it : CI} {ce : CE} {xs : List PV} (hit : evi C it ε M = .ok (xs, []) M) (hl : xs.length ≤ sline) (hb : ∀ x ∈ xs, ∀ acc, ∃ ε1, bindT t x (wipeE ε own) (M ++ [.lst acc]) = some ε1 ∧ ev C ce ε1 (M ++ [.lst acc]) = .ok (f x) (M ++ [.lst acc])) (hv : ∀ x ∈ xs, (f x).lt M.length = true) :
    ev C (.lc false own ce t it []) ε M = .ok (.lst (xs.map f)) M := by
  show (evi C it ε M).bind _ = _
  rw [hit]
  show (lcLoop own t (fun ε M => .ok true M) (fun ε M => ev C ce ε M) [] ε M.length xs (M ++ [Cell.lst []])).bind _ = _
  rw [lc_pure_loop (p := fun _ => true) (f := f) xs [] (by simpa using hl) fun x hx acc => by
    obtain ⟨ε1, h1, h2⟩ := hb x hx acc
    exact ⟨ε1, h1, rfl, fun _ => h2⟩]
  have ef : xs.filter (fun _ => true) = xs := List.filter_eq_self.mpr fun _ _ => rfl
  show lcEnd false M (M ++ [Cell.lst ([] ++ (xs.filter fun _ => true).map f)]) = _
  rw [ef, List.nil_append]
  exact lcEnd_of (lts_of fun y hy => by
    obtain ⟨x, hx, rfl⟩ := List.mem_map.mp hy
    exact hv x hx)
/-- [f x for x in xs if p x] -/
theorem e_lcI {it : CI} {ce cp : CE} {xs : List PV} (hit : evi C it ε M = .ok (xs, []) M) (hl : xs.length ≤ sline)
    (hb : ∀ x ∈ xs, ∀ acc, ∃ ε1, bindT t x (wipeE ε own) (M ++ [.lst acc]) = some ε1 ∧ (ev C cp ε1 (M ++ [.lst acc])).test = .ok (p x) (M ++ [.lst acc]) ∧ (p x = true → ev C ce ε1 (M ++ [.lst acc]) = .ok (f x) (M ++ [.lst acc]))) (hv : ∀ x ∈ xs, p x = true → (f x).lt M.length = true) :
    ev C (.lc false own ce t it [cp]) ε M = .ok (.lst ((xs.filter p).map f)) M := by
  show (evi C it ε M).bind _ = _
  rw [hit]
  show (lcLoop own t (fun ε M => (ev C cp ε M).test) (fun ε M => ev C ce ε M) [] ε M.length xs (M ++ [Cell.lst []])).bind _ = _
  rw [lc_pure_loop (p := p) (f := f) xs [] (by simpa using hl) hb]
  show lcEnd false M (M ++ [Cell.lst ([] ++ (xs.filter p).map f)]) = _
  rw [List.nil_append]
  exact lcEnd_of (lts_of fun y hy => by
    obtain ⟨x, hx, rfl⟩ := List.mem_map.mp hy
    obtain ⟨h1, h2⟩ := List.mem_filter.mp hx
    exact hv x h1 h2)
end
/-! ### the laws' draws -/
section
variable {G : Glo} {w n f : Nat} {M : Mem} {i : Nat}
/-- a law's state in the cell i; its counter is at most k -/
def DS (M : Mem) (i : Nat) (k : Int) : Prop := ∃ a b c, M[i]? = some (.lst [.int a, .int b, .int c]) ∧ 0 ≤ c ∧ c ≤ k
theorem DS.mono {k l : Int} (h : DS M i k) (hl : k ≤ l) : DS M i l := by
  obtain ⟨a, b, c, h1, h2, h3⟩ := h
  exact ⟨a, b, c, h1, h2, by omega⟩
def beginB : List CS := [(.ret (.lst true [(.bfn .maxOf false [(.lit (.int 0)), (.bin .Sub false (.loc 0) (.bin .Pow false (.lit (.int 10)) (.lit (.int 18))))]), (.bin .Add false (.loc 0) (.bin .Mult false (.lit (.int 977)) (.loc 1))), (.lit (.int 0))]))]
theorem begin_call {c t : Int} (hf : G.fns[f]? = some (.fn ⟨2, 2, beginB⟩)) (ht : 0 ≤ t) (ht2 : t < 2 ^ 40) : ∃ a b, call G w (n + 1) f [.int c, .int t] M = .ok (.ref M.length) (M ++ [.lst [.int a, .int b, .int 0]]) := by
  have k1 : mulOk 977 t = true := mulOk_of (k := 20) (l := 41) (by decide) (natAbs_lt (by omega) (by omega)) (by decide) (by decide) (by decide)
  have k2 : powOk 10 18 = true := by decide +kernel
  refine ⟨if c - 10 ^ (18 : Int).toNat > 0 then c - 10 ^ (18 : Int).toNat else 0, c + 977 * t, ?_⟩
  rw [call_fn hf rfl]
  have e : exs ⟨call G w n, w, G⟩ beginB [some (.int c), some (.int t)] M = .rt (.ref M.length) (M ++ [.lst [.int (if c - 10 ^ (18 : Int).toNat > 0 then c - 10 ^ (18 : Int).toNat else 0), .int (c + 977 * t), .int 0]]) := by
    simp only [beginB, xs_cons, x_ret, e_lstC, es_cons, es_nil, e_bfn, e_lit, e_bin, e_loc0, e_locS, r_bind, r_out, b_powI false k2, b_subI, f_max, b_mulI false k1, b_addI, o_rt]
  show finO M (exs ⟨call G w n, w, G⟩ beginB [some (.int c), some (.int t)] M) = _
  rw [e]
  show Res.ok (PV.ref M.length) (fin M (PV.ref M.length) _).2 = _
  rw [fin_young (by show decide (M.length < M.length) = false; simp)]
theorem DS.begin (a b : Int) : DS (M ++ [.lst [.int a, .int b, .int 0]]) M.length 0 := ⟨a, b, 0, by simp, by omega, by omega⟩
def drawB : List CS := [(.ife (.cmp .Gt (.idx (.loc 0) (.lit (.int 0))) (.lit (.int 0))) [(.asg (.nm 2) (.bin .Mod false (.bfn .intOf false [(.idx (.loc 0) (.lit (.int 0)))]) (.loc 1))), (.seti (.loc 0) (.lit (.int 0)) (.bin .FloorDiv false (.idx (.loc 0) (.lit (.int 0))) (.loc 1))), (.ret (.loc 2))] []), (.seti (.loc 0) (.lit (.int 2)) (.bin .Add false (.idx (.loc 0) (.lit (.int 2))) (.lit (.int 1)))), (.asg (.nm 2) (.bin .Add false (.bin .Mod false (.bfn .intOf false [(.idx (.loc 0) (.lit (.int 1)))]) (.lit (.int 2147483629))) (.bin .Mult false (.lit (.int 104729)) (.idx (.loc 0) (.lit (.int 2)))))), (.asg (.nm 2) (.bin .Mult false (.loc 2) (.bin .Add false (.bin .Add false (.bin .Mod false (.bfn .intOf false [(.idx (.loc 0) (.lit (.int 1)))]) (.lit (.int 2147483587))) (.bin .Mult false (.bin .Mult false (.lit (.int 7919)) (.idx (.loc 0) (.lit (.int 2)))) (.idx (.loc 0) (.lit (.int 2))))) (.lit (.int 11))))), (.ret (.bin .Mod false (.bfn .intOf false [(.bin .FloorDiv false (.bin .Mod false (.bfn .intOf false [(.bin .Pow false (.loc 2) (.lit (.int 3)))]) (.lit (.int 2147483647))) (.lit (.int 11)))]) (.loc 1)))]
end
section
variable {C : Ctx} {i : Nat} {a b c n : Int} {M : Mem}
theorem draw_big (hM : M[i]? = some (.lst [.int a, .int b, .int c])) (hn : 0 < n) (hd : divOk n = true) (h0 : 0 < a) : exs C drawB [some (.ref i), some (.int n), none] M = .rt (.int (a % n)) (M.set i (.lst [.int (a / n), .int b, .int c])) := by
  have g0 : ∀ {M : Mem} {x y z : PV}, M[i]? = some (.lst [x, y, z]) → getIx M (.ref i) (.int 0) = .ok x M := fun h => i_cell (k := 0) h rfl
  have s0 : ∀ {M : Mem} {x y z v : PV}, M[i]? = some (.lst [x, y, z]) → setIx (.ref i) (.int 0) v M = some (M.set i (.lst [v, y, z])) := fun h => s_cell (k := 0) h (by simp)
  simp [drawB, g0 hM, s0 hM, h0, x_seti, b_modI false hn, b_divI false hd]
theorem draw_small {x y : Int} (hM : M[i]? = some (.lst [.int a, .int b, .int c])) (hn : 0 < n) (h0 : ¬ 0 < a) (hx : b % 2147483629 + 104729 * (c + 1) = x) (hy : b % 2147483587 + 7919 * (c + 1) * (c + 1) + 11 = y) (k1 : mulOk 104729 (c + 1) = true) (k2 : mulOk 7919 (c + 1) = true) (k3 : mulOk (7919 * (c + 1)) (c + 1) = true) (k4 : mulOk x y = true) (k5 : powOk (x * y) 3 = true) (k6 : divOk 11 = true)
    (n1 : (0 : Int) < 2147483629) (n2 : (0 : Int) < 2147483587) (n3 : (0 : Int) < 2147483647) : exs C drawB [some (.ref i), some (.int n), none] M = .rt (.int ((x * y) ^ (3 : Int).toNat % 2147483647 / 11 % n)) (M.set i (.lst [.int a, .int b, .int (c + 1)])) := by
  have hs : ∀ X, (M.set i X)[i]? = some X := fun X => List.getElem?_set_self (List.getElem?_eq_some_iff.mp hM).1
  have g0 : ∀ {M : Mem} {x y z : PV}, M[i]? = some (.lst [x, y, z]) → getIx M (.ref i) (.int 0) = .ok x M := fun h => i_cell (k := 0) h rfl
  have g1 : ∀ {M : Mem} {x y z : PV}, M[i]? = some (.lst [x, y, z]) → getIx M (.ref i) (.int 1) = .ok y M := fun h => i_cell (k := 1) h rfl
  have g2 : ∀ {M : Mem} {x y z : PV}, M[i]? = some (.lst [x, y, z]) → getIx M (.ref i) (.int 2) = .ok z M := fun h => i_cell (k := 2) h rfl
  have s2 : ∀ {M : Mem} {x y z v : PV}, M[i]? = some (.lst [x, y, z]) → setIx (.ref i) (.int 2) v M = some (M.set i (.lst [x, y, v])) := fun h => s_cell (k := 2) h (by simp)
  have hM1 := hs (.lst [.int a, .int b, .int (c + 1)])
  simp only [drawB, xs_cons, xs_nil, x_ifs, x_asgN, x_seti, x_ret, e_cmp, e_idx, e_loc0, e_locS, e_lit, e_bin, e_bfn, es_cons, es_nil, r_bind, r_out, o_nx, o_rt, g0 hM, g2 hM, s2 hM, g1 hM1, g2 hM1, c_gtI, h0, decide_false, r_testB, f_int, b_addI, b_modI false hn, b_modI false n1, b_modI false n2, b_modI false n3, b_divI false k6, b_mulI false k1, b_mulI false k2, b_mulI false k3, b_mulI false k4, b_powI false k5, hx, hy, List.set_cons_succ, List.set_cons_zero]
end
section
variable {G : Glo} {w n f : Nat} {M : Mem} {i : Nat}
/-- a draw: of a number below m -/
theorem draw_call {m k : Int} (hf : G.fns[f]? = some (.fn ⟨2, 3, drawB⟩)) (hD : DS M i k) (hk : k < 2 ^ 40) (hn : 0 < m) (hn2 : m < 2 ^ 62) :
    ∃ d a b c, call G w (n + 1) f [.ref i, .int m] M = .ok (.int d) (M.set i (.lst [.int a, .int b, .int c])) ∧ 0 ≤ d ∧ d < m ∧ DS (M.set i (.lst [.int a, .int b, .int c])) i (k + 1) := by
  obtain ⟨a, b, c, hM, hc, hc2⟩ := hD
  have hs : ∀ X, (M.set i X)[i]? = some X := fun X => List.getElem?_set_self (List.getElem?_eq_some_iff.mp hM).1
  have hd : divOk m = true := divOk_of (k := 62) hn (natAbs_lt (by omega) hn2) (by decide) (by decide)
  by_cases h0 : 0 < a
  · refine ⟨a % m, a / m, b, c, call_set hf rfl rfl rfl (draw_big hM hn hd h0), Int.emod_nonneg _ (by omega), Int.emod_lt_of_pos _ hn, ⟨_, _, _, hs _, hc, by omega⟩⟩
  · have m1 : (0 : Int) ≤ b % 2147483629 := Int.emod_nonneg _ (by omega)
    have m2 : b % 2147483629 < 2147483629 := Int.emod_lt_of_pos _ (by omega)
    have m3 : (0 : Int) ≤ b % 2147483587 := Int.emod_nonneg _ (by omega)
    have m4 : b % 2147483587 < 2147483587 := Int.emod_lt_of_pos _ (by omega)
    have hcb : c < 2 ^ 40 := by omega
    generalize hx : b % 2147483629 + 104729 * (c + 1) = x
    generalize hy : b % 2147483587 + 7919 * (c + 1) * (c + 1) + 11 = y
    have k1 : mulOk 104729 (c + 1) = true := mulOk_of (k := 20) (l := 41) (by decide) (natAbs_lt (by omega) (by omega)) (by decide) (by decide) (by decide)
    have k2 : mulOk 7919 (c + 1) = true := mulOk_of (k := 20) (l := 41) (by decide) (natAbs_lt (by omega) (by omega)) (by decide) (by decide) (by decide)
    have b2 : (7919 * (c + 1)).natAbs < 2 ^ 60 := natAbs_lt (by omega) (by omega)
    have k3 : mulOk (7919 * (c + 1)) (c + 1) = true := mulOk_of (k := 60) (l := 41) b2 (natAbs_lt (by omega) (by omega)) (by decide) (by decide) (by decide)
    have bx : x.natAbs < 2 ^ 62 := natAbs_lt (by omega) (by omega)
    have by_ : y.natAbs < 2 ^ 102 := by
      have q0 : (0 : Int) ≤ 7919 * (c + 1) * (c + 1) := Int.mul_nonneg (by omega) (by omega)
      have q1 : 7919 * (c + 1) * (c + 1) ≤ 2 ^ 60 * 2 ^ 41 := Int.mul_le_mul (by omega) (by omega) (by omega) (by decide)
      exact natAbs_lt (by omega) (by omega)
    have k4 : mulOk x y = true := mulOk_of (k := 62) (l := 102) bx by_ (by decide) (by decide) (by decide)
    have bz : (x * y).natAbs < 2 ^ 164 := by
      rw [Int.natAbs_mul, show (2 : Nat) ^ 164 = 2 ^ 62 * 2 ^ 102 from by decide]
      exact Nat.mul_lt_mul'' bx by_
    have k5 : powOk (x * y) 3 = true := pow3Ok bz (by decide) (by decide)
    have k6 : divOk 11 = true := by decide
    refine ⟨((x * y) ^ (3 : Int).toNat % 2147483647 / 11) % m, a, b, c + 1, call_set hf rfl rfl rfl (draw_small hM hn h0 hx hy k1 k2 k3 k4 k5 k6 (by decide) (by decide) (by decide)), Int.emod_nonneg _ (by omega), Int.emod_lt_of_pos _ hn, ⟨_, _, _, hs _, by omega, by omega⟩⟩
/-- the def that picks one of some things; it draws by the def f -/
def pickB (f : Nat) : List CS := [(.ret (.idx (.loc 1) (.call f [(.loc 0), (.bfn .len false [(.loc 1)])])))]
theorem pick_call {q : Nat} {k : Int} {xs : List PV} (hq : G.fns[q]? = some (.fn ⟨2, 2, pickB f⟩)) (hf : G.fns[f]? = some (.fn ⟨2, 3, drawB⟩)) (hD : DS M i k) (hk : k < 2 ^ 40) (h0 : 0 < xs.length) (h1 : xs.length < 2 ^ 40) (hv : PV.lts M.length xs = true) :
    ∃ v a b c, call G w (n + 2) q [.ref i, .lst xs] M = .ok v (M.set i (.lst [.int a, .int b, .int c])) ∧ v ∈ xs ∧ DS (M.set i (.lst [.int a, .int b, .int c])) i (k + 1) := by
  obtain ⟨d, a, b, c, e, d0, d1, hD'⟩ := draw_call (w := w) (n := n) hf hD hk (m := (xs.length : Int)) (by omega) (by omega)
  obtain ⟨j, rfl⟩ := Int.eq_ofNat_of_zero_le d0
  have hj : j < xs.length := by omega
  have hx : xs[j]? = some xs[j] := List.getElem?_eq_getElem hj
  have hm : xs[j] ∈ xs := List.getElem_mem hj
  refine ⟨xs[j], a, b, c, call_set hq rfl (lt_of_lts hv _ hm) rfl ?_, hm, hD'⟩
  have el : ∀ N : Mem, bfn .len false [.lst xs] N = .ok (.int (xs.length : Int)) N := fun N => rfl
  show exs ⟨call G w (n + 1), w, G⟩ (pickB f) [some (.ref i), some (.lst xs)] M = _
  simp only [pickB, xs_cons, x_ret, e_idx, e_loc0, e_locS, e_call, es_cons, es_nil, e_bfn, r_bind, el, e, i_lst hx, r_out, o_rt]
end
end
end WT
set_option maxRecDepth 100000
set_option autoImplicit false
/-! Names: tools for plain laws. -/
namespace WT
noncomputable section
open PySem (Str CmpOp Operator PyData)

/-! ### texts as lists of signs -/
def sgn (c : Nat) : Str := ⟨#[c]⟩
def chars (x : Str) : List PV := x.cps.toList.map fun c => .str (sgn c)
def abc : Str := "abcdefghijklmnopqrstuvwxyz"
def letOk (c : Nat) : Bool := strIn (sgn c) abc
/-- a name -/
def nmS (x : Str) : Bool := decide (1 ≤ x.length) && (decide (x.length ≤ 6) && x.cps.toList.all letOk)
def nmB : PV → Bool
  | .str x => nmS x
  | _ => false
theorem deepWs_strs {r : Nat → Option PyData} : ∀ xs : List Str, deepWs r (xs.map PV.str) = some (xs.map PyData.str)
  | [] => rfl
  | x :: l => by
    show (deepW r (.str x)).bind (fun d => (deepWs r (l.map PV.str)).map fun ds => d :: ds) = _
    rw [deepWs_strs l]
    rfl
theorem lay_strs : ∀ xs : List Str, (∀ x ∈ xs, PyData.strOk x = true) → PyData.canLayAll0 (xs.map PyData.str) = true
  | [], _ => rfl
  | x :: l, h => by
    show (PyData.strOk x && PyData.canLayAll0 (l.map PyData.str)) = true
    rw [h x List.mem_cons_self, lay_strs l fun y hy => h y (List.mem_cons_of_mem _ hy)]
    rfl
theorem depth_strs : ∀ xs : List Str, PyData.depthAll (xs.map PyData.str) = 0
  | [] => rfl
  | x :: l => by
    show max 0 (PyData.depthAll (l.map PyData.str)) = 0
    rw [depth_strs l]
    rfl
theorem shaped_strs {xs : List Str} (h : ∀ x ∈ xs, PyData.strOk x = true) : PySem.SeqAt.shaped (.list (xs.map PyData.str)) = true := by
  unfold PySem.SeqAt.shaped
  rw [Bool.and_eq_true]
  refine ⟨lay_strs xs h, decide_eq_true ?_⟩
  show PyData.depthAll (xs.map PyData.str) + 1 ≤ 64
  rw [depth_strs]
  decide
/-- a list of texts is held against the empty one -/
theorem eq_strs_nil {M : Mem} {xs : List Str} (h : ∀ x ∈ xs, PyData.strOk x = true) : eqData M (.lst (xs.map .str)) (.lst []) = some xs.isEmpty := by
  have e1 : deep M (.lst (xs.map .str)) = some (.list (xs.map PyData.str)) := by
    show (deepWs _ (xs.map PV.str)).map PyData.list = _
    rw [deepWs_strs]
    rfl
  show (deep M (.lst (xs.map .str))).bind (fun d => (deep M (.lst [])).bind fun e => if PySem.SeqAt.shaped d && PySem.SeqAt.shaped e then some (PyData.eqv d e) else none) = _
  rw [e1]
  show (if PySem.SeqAt.shaped (.list (xs.map PyData.str)) && PySem.SeqAt.shaped (.list []) then some (PyData.eqv (.list (xs.map PyData.str)) (.list [])) else none) = _
  rw [shaped_strs h]
  show some (PyData.eqv (.list (xs.map PyData.str)) (.list [])) = _
  cases xs <;> rfl
/-! ### the two tests of names -/
section
variable {C : Ctx} {M : Mem} {x : Str}
def nameB : List CS := [(.ife (.or (.not (.isi (.loc 0) [(.ty "str")] false)) (.not (.chn .LtE .LtE (.lit (.int 1)) (.bfn .len false [(.loc 0)]) (.glo (.int 6))))) [(.ret (.lit (.bl false)))] []), (.ret (.cmp .Eq (.lc false [1] (.loc 1) (.nm 1) (.of (.loc 0)) [(.cmp .NotIn (.loc 1) (.glo (.str "abcdefghijklmnopqrstuvwxyz")))]) (.lst false [])))]
def lawNameB : List CS := [(.ife (.or (.not (.isi (.loc 0) [(.ty "str")] false)) (.cmp .NotIn (.bfn .len false [(.loc 0)]) (.tup [(.lit (.int 1)), (.lit (.int 2)), (.lit (.int 3)), (.lit (.int 4)), (.lit (.int 5)), (.lit (.int 6))]))) [(.ret (.lit (.bl false)))] []), (.ret (.cmp .Eq (.lc false [1] (.loc 1) (.nm 1) (.of (.loc 0)) [(.cmp .NotIn (.loc 1) (.lit (.str "abcdefghijklmnopqrstuvwxyz")))]) (.lst false [])))]
theorem strOk_sgn {c : Nat} (h : PyData.strOk x = true) (hc : c ∈ x.cps.toList) : PyData.strOk (sgn c) = true := by
  have h : x.cps.all (fun c => decide (c < 0x110000)) = true := h
  rw [← Array.all_toList] at h
  have z := List.all_eq_true.mp h c hc
  show (#[c] : Array Nat).all (fun c => decide (c < 0x110000)) = true
  simpa using z
/-- the signs that are no letters, as both defs list them -/
theorem odd_signs {ce : CE} (hce : ∀ ε N, ev C ce ε N = .ok (.str abc) N) (h : PyData.strOk x = true) (hl : x.length ≤ sline) :
    ev C (.cmp .Eq (.lc false [1] (.loc 1) (.nm 1) (.of (.loc 0)) [(.cmp .NotIn (.loc 1) ce)]) (.lst false [])) [some (.str x), none] M = .ok (.bl (x.cps.toList.all letOk)) M := by
  have e := e_lcI (C := C) (ε := [some (.str x), none]) (M := M) (own := [1]) (t := .nm 1) (it := .of (.loc 0)) (ce := .loc 1) (cp := .cmp .NotIn (.loc 1) ce) (xs := chars x) (f := id) (p := fun v => match v with
    | .str s => !strIn s abc
    | _ => false) rfl (by unfold chars; rw [List.length_map, Array.length_toList]; exact hl) (fun v hv acc => by
      obtain ⟨c, hc, rfl⟩ := List.mem_map.mp hv
      refine ⟨[some (.str x), some (.str (sgn c))], rfl, ?_, fun _ => rfl⟩
      have e0 : ev C (.loc 1) [some (.str x), some (.str (sgn c))] (M ++ [Cell.lst acc]) = .ok (.str (sgn c)) (M ++ [Cell.lst acc]) := rfl
      rw [e_cmp, e0, r_bind, hce]
      rfl) (fun v hv _ => by
      obtain ⟨c, hc, rfl⟩ := List.mem_map.mp hv
      rfl)
  have ef : ((chars x).filter fun v => match v with
    | .str s => !strIn s abc
    | _ => false).map id = ((x.cps.toList.filter fun c => !letOk c).map sgn).map PV.str := by
    unfold chars
    rw [List.map_id, List.filter_map, List.map_map]
    rfl
  rw [ef] at e
  rw [e_cmp, e, r_bind, e_lstT, es_nil, r_bind, r_bind]
  show ofOpt M ((eqData M (.lst (((x.cps.toList.filter fun c => !letOk c).map sgn).map PV.str)) (.lst [])).map .bl) = _
  rw [eq_strs_nil fun y hy => by
    obtain ⟨c, hc, rfl⟩ := List.mem_map.mp hy
    exact strOk_sgn h (List.mem_filter.mp hc).1]
  show Res.ok (PV.bl _) M = _
  congr 2
  rw [List.isEmpty_map]
  generalize x.cps.toList = l
  induction l with
  | nil => rfl
  | cons c r ih =>
    rw [List.filter_cons, List.all_cons]
    cases hc : letOk c with
    | true => simpa using ih
    | false => rfl
theorem name_str (h : PyData.strOk x = true) : exs C nameB [some (.str x), none] M = .rt (.bl (nmS x)) M := by
  have el : ∀ N : Mem, bfn .len false [.str x] N = .ok (.int (x.length : Int)) N := fun N => rfl
  have ei : ofOpt M ((isAny C.G M (.str x) [.ty "str"]).map .bl) = .ok (.bl true) M := rfl
  unfold nameB
  rw [xs_cons]
  have ec : ev C (.or (.not (.isi (.loc 0) [(.ty "str")] false)) (.not (.chn .LtE .LtE (.lit (.int 1)) (.bfn .len false [(.loc 0)]) (.glo (.int 6))))) [some (.str x), none] M = .ok (.bl (!(decide (1 ≤ x.length) && decide (x.length ≤ 6)))) M := by
    rw [e_or, e_not, e_isi, e_loc0, r_bind, ei, r_testB, r_bind, r_bind]
    show (ev C (.not (.chn .LtE .LtE (.lit (.int 1)) (.bfn .len false [(.loc 0)]) (.glo (.int 6)))) [some (.str x), none] M) = _
    have e2 : ev C (.chn .LtE .LtE (.lit (.int 1)) (.bfn .len false [(.loc 0)]) (.glo (.int 6))) [some (.str x), none] M = .ok (.bl (decide (1 ≤ x.length) && decide (x.length ≤ 6))) M := by
      show (Res.bind (.ok (PV.bl (decide ((1 : Int) ≤ (x.length : Int)))) M) fun r M => (match r with
        | .bl true => (ev C (.glo (.int 6)) [some (.str x), none] M).bind fun z M => cmpop C .LtE (.int (x.length : Int)) z M
        | .bl false => .ok (.bl false) M
        | _ => Res.stuck)) = _
      have d1 : decide ((1 : Int) ≤ (x.length : Int)) = decide (1 ≤ x.length) := by by_cases h1 : 1 ≤ x.length <;> simp [h1] <;> omega
      have d2 : decide ((x.length : Int) ≤ 6) = decide (x.length ≤ 6) := by by_cases h1 : x.length ≤ 6 <;> simp [h1] <;> omega
      rw [d1]
      cases decide (1 ≤ x.length) with
      | false => rfl
      | true =>
        show Res.ok (PV.bl (decide ((x.length : Int) ≤ 6))) M = _
        rw [d2]
        rfl
    rw [e_not, e2]
    rfl
  rw [x_ifs, ec, r_testB, r_out]
  unfold nmS
  by_cases h6 : (decide (1 ≤ x.length) && decide (x.length ≤ 6)) = true
  · rw [h6, ← Bool.and_assoc, h6]
    have hl : x.length ≤ sline := by
      rw [Bool.and_eq_true] at h6
      have := of_decide_eq_true h6.2
      unfold sline
      omega
    show (Out.nx _ M).seq _ = _
    rw [o_nx, xs_cons, x_ret, odd_signs (fun _ _ => rfl) h hl]
    rfl
  · have h6 : (decide (1 ≤ x.length) && decide (x.length ≤ 6)) = false := Bool.eq_false_iff.mpr h6
    rw [h6, ← Bool.and_assoc, h6]
    rfl
theorem lawName_str (h : PyData.strOk x = true) : exs C lawNameB [some (.str x), none] M = .rt (.bl (nmS x)) M := by
  have ei : ofOpt M ((isAny C.G M (.str x) [.ty "str"]).map .bl) = .ok (.bl true) M := rfl
  unfold lawNameB
  rw [xs_cons]
  have ec : ev C (.or (.not (.isi (.loc 0) [(.ty "str")] false)) (.cmp .NotIn (.bfn .len false [(.loc 0)]) (.tup [(.lit (.int 1)), (.lit (.int 2)), (.lit (.int 3)), (.lit (.int 4)), (.lit (.int 5)), (.lit (.int 6))]))) [some (.str x), none] M = .ok (.bl (!(decide (1 ≤ x.length) && decide (x.length ≤ 6)))) M := by
    rw [e_or, e_not, e_isi, e_loc0, r_bind, ei, r_testB, r_bind, r_bind]
    show Res.ok (PV.bl (!([PV.int 1, .int 2, .int 3, .int 4, .int 5, .int 6].any fun z => eqF z (.int (x.length : Int))))) M = _
    congr 3
    show ((1 : Int) == (x.length : Int) || ((2 : Int) == (x.length : Int) || ((3 : Int) == (x.length : Int) || ((4 : Int) == (x.length : Int) || ((5 : Int) == (x.length : Int) || ((6 : Int) == (x.length : Int) || false)))))) = _
    rw [Bool.eq_iff_iff]
    simp only [Bool.or_eq_true, beq_iff_eq, Bool.and_eq_true, decide_eq_true_eq, Bool.false_eq_true, or_false]
    omega
  rw [x_ifs, ec, r_testB, r_out]
  unfold nmS
  by_cases h6 : (decide (1 ≤ x.length) && decide (x.length ≤ 6)) = true
  · rw [h6, ← Bool.and_assoc, h6]
    have hl : x.length ≤ sline := by
      rw [Bool.and_eq_true] at h6
      have := of_decide_eq_true h6.2
      unfold sline
      omega
    show (Out.nx _ M).seq _ = _
    rw [o_nx, xs_cons, x_ret, odd_signs (fun _ _ => rfl) h hl]
    rfl
  · have h6 : (decide (1 ≤ x.length) && decide (x.length ≤ 6)) = false := Bool.eq_false_iff.mpr h6
    rw [h6, ← Bool.and_assoc, h6]
    rfl
end
/-! ### states in the midst of a comprehension -/
theorem set_same {M : Mem} {i : Nat} {c : Cell} (h : M[i]? = some c) : M.set i c = M := by
  apply List.ext_getElem?
  intro j
  by_cases hj : i = j
  · subst hj
    rw [List.getElem?_set_self (List.getElem?_eq_some_iff.mp h).1, h]
  · rw [List.getElem?_set_ne hj]
theorem set_app {M N : Mem} {i : Nat} {c : Cell} (h : i < M.length) : (M ++ N).set i c = M.set i c ++ N := by
  rw [List.set_append_left _ _ h]
/-- the state of a law, written -/
abbrev stC (a b c : Int) : Cell := .lst [.int a, .int b, .int c]
theorem DS.self {M : Mem} {i : Nat} {k : Int} (h : DS M i k) : ∃ a b c, M = M.set i (stC a b c) := by
  obtain ⟨a, b, c, h, _⟩ := h
  exact ⟨a, b, c, (set_same h).symm⟩
theorem DS.app {M N : Mem} {i : Nat} {k : Int} (h : DS M i k) : DS (M ++ N) i k := by
  obtain ⟨a, b, c, h, h1⟩ := h
  exact ⟨a, b, c, by rw [List.getElem?_append_left (List.getElem?_eq_some_iff.mp h).1]; exact h, h1⟩
theorem DS.lt {M : Mem} {i : Nat} {k : Int} (h : DS M i k) : i < M.length := by
  obtain ⟨a, b, c, h, _⟩ := h
  exact (List.getElem?_eq_some_iff.mp h).1
theorem DS.unapp {M N : Mem} {i : Nat} {k : Int} (h : DS (M ++ N) i k) (hi : i < M.length) : DS M i k := by
  obtain ⟨a, b, c, h, h1⟩ := h
  exact ⟨a, b, c, by rw [List.getElem?_append_left hi] at h; exact h, h1⟩
section
variable {own : List Nat} {t : CT} {elt : Env → Mem → Res PV} {ε : Env} {i L : Nat} {R : PV → Prop} {K d : Int}
/-- each element draws (at most d times) -/
theorem lc_draw_loop (hd : 0 ≤ d) : ∀ (xs : List PV) (acc : List PV) (M : Mem) (k : Int), M.length = L → DS M i k → k + d * (xs.length : Int) ≤ K → acc.length + xs.length ≤ sline →
    (∀ x ∈ xs, ∀ N acc k, N.length = L → DS N i k → k + d ≤ K → ∃ ε1 v a b c, bindT t x (wipeE ε own) (N ++ [Cell.lst acc]) = some ε1 ∧ elt ε1 (N ++ [Cell.lst acc]) = .ok v (N.set i (stC a b c) ++ [Cell.lst acc]) ∧ R v ∧ DS (N.set i (stC a b c)) i (k + d)) →
    ∃ vs a b c, lcLoop own t (fun _ M => .ok true M) elt [] ε L xs (M ++ [Cell.lst acc]) = .ok () (M.set i (stC a b c) ++ [Cell.lst (acc ++ vs)]) ∧ vs.length = xs.length ∧ (∀ v ∈ vs, R v) ∧ DS (M.set i (stC a b c)) i (k + d * (xs.length : Int))
  | [], acc, M, k, _, hD, _, _, _ => by
    obtain ⟨a, b, c, e⟩ := hD.self
    exact ⟨[], a, b, c, (by rw [← e, List.append_nil]; rfl), rfl, (fun v hv => by cases hv), (by rw [← e]; simpa using hD)⟩
  | x :: r, acc, M, k, hL, hD, hk, hl, h => by
    have hlen : ((x :: r).length : Int) = (r.length : Int) + 1 := by simp
    rw [hlen, Int.mul_add, Int.mul_one] at hk
    have hr : 0 ≤ d * (r.length : Int) := Int.mul_nonneg hd (by omega)
    obtain ⟨ε1, v, a, b, c, h1, h2, h3, h4⟩ := h x List.mem_cons_self M acc k hL hD (by omega)
    simp only [List.length_cons] at hl
    generalize hM1 : M.set i (stC a b c) = M1 at h2 h4
    have hL1 : M1.length = L := by rw [← hM1, List.length_set]; exact hL
    obtain ⟨vs, a2, b2, c2, e, e2, e3, e4⟩ := lc_draw_loop hd r (acc ++ [v]) M1 (k + d) hL1 h4 (by omega) (by rw [List.length_append, List.length_singleton]; omega) fun y hy => h y (List.mem_cons_of_mem _ hy)
    have at_ : (M1 ++ [Cell.lst acc])[L]? = some (.lst acc) := by rw [← hL1]; simp
    have set_ : ∀ q, (M1 ++ [Cell.lst acc]).set L q = M1 ++ [q] := fun q => by rw [← hL1]; simp
    have es : M1.set i (stC a2 b2 c2) = M.set i (stC a2 b2 c2) := by rw [← hM1, List.set_set]
    refine ⟨v :: vs, a2, b2, c2, ?_, by simp [e2], fun u hu => ?_, ?_⟩
    · show (match still [] (M ++ [Cell.lst acc]), bindT t x (wipeE ε own) (M ++ [Cell.lst acc]) with
        | true, some ε1 => (match Res.ok true (M ++ [Cell.lst acc]) with
          | .ok true M1 => (match elt ε1 M1 with
            | .ok v M2 => (match M2[L]? with
              | some (.lst acc) => (match decide (acc.length < sline) with
                | true => lcLoop own t (fun _ M => .ok true M) elt [] ε L r (M2.set L (.lst (acc ++ [v])))
                | false => .stuck)
              | _ => .stuck)
            | _ => .stuck)
          | .ok false M1 => lcLoop own t (fun _ M => .ok true M) elt [] ε L r M1
          | _ => .stuck)
        | _, _ => .stuck) = _
      rw [h1, still_nil]
      simp only [h2, at_, decide_eq_true (show acc.length < sline by omega), set_]
      rw [e, es, List.append_assoc]
      rfl
    · rcases List.mem_cons.mp hu with rfl | hu
      · exact h3
      · exact e3 u hu
    · rw [← es, hlen, Int.mul_add, Int.mul_one, show k + (d * (r.length : Int) + d) = k + d + d * (r.length : Int) by omega]
      exact e4
end
/-- [elt for t in xs], the elements draw -/
theorem e_lcD {C : Ctx} {ε : Env} {M M0 : Mem} {own : List Nat} {t : CT} {ce : CE} {it : CI} {i : Nat} {R : PV → Prop} {K d k : Int} {xs : List PV} (hit : evi C it ε M0 = .ok (xs, []) M) (hd : 0 ≤ d) (hD : DS M i k) (hk : k + d * (xs.length : Int) ≤ K) (hl : xs.length ≤ sline) (hR : ∀ v, R v → v.lt M.length = true)
    (h : ∀ x ∈ xs, ∀ N acc k, N.length = M.length → DS N i k → k + d ≤ K → ∃ ε1 v a b c, bindT t x (wipeE ε own) (N ++ [Cell.lst acc]) = some ε1 ∧ ev C ce ε1 (N ++ [Cell.lst acc]) = .ok v (N.set i (stC a b c) ++ [Cell.lst acc]) ∧ R v ∧ DS (N.set i (stC a b c)) i (k + d)) :
    ∃ vs a b c, ev C (.lc false own ce t it []) ε M0 = .ok (.lst vs) (M.set i (stC a b c)) ∧ vs.length = xs.length ∧ (∀ v ∈ vs, R v) ∧ DS (M.set i (stC a b c)) i (k + d * (xs.length : Int)) := by
  obtain ⟨vs, a, b, c, e, e2, e3, e4⟩ := lc_draw_loop (own := own) (t := t) (elt := fun ε M => ev C ce ε M) (ε := ε) (L := M.length) (R := R) hd xs [] M k rfl hD hk (by simpa using hl) h
  refine ⟨vs, a, b, c, ?_, e2, e3, e4⟩
  show (evi C it ε M0).bind _ = _
  rw [hit]
  show (lcLoop own t (fun ε M => .ok true M) (fun ε M => ev C ce ε M) [] ε M.length xs (M ++ [Cell.lst []])).bind _ = _
  rw [e]
  show lcEnd false M (M.set i (stC a b c) ++ [Cell.lst ([] ++ vs)]) = _
  rw [List.nil_append]
  have hi := hD.lt
  have at_ : (M.set i (stC a b c) ++ [Cell.lst vs])[M.length]? = some (.lst vs) := by
    rw [List.getElem?_append_right (by simp)]
    simp
  have set_ : (M.set i (stC a b c) ++ [Cell.lst vs]).set M.length .dead = (M ++ [Cell.dead]).set i (stC a b c) := by
    rw [set_app hi, List.set_append_right _ _ (by simp)]
    simp
  unfold lcEnd
  simp only [at_, set_]
  rw [fin_of (v := .lst vs) (lts_of fun v hv => hR v (e3 v hv)) (Grow.app.set (d := stC a b c) rfl), set_app hi, List.take_append_of_le_length (by simp), List.take_of_length_le (by simp)]
end
end WT
set_option maxRecDepth 100000
set_option autoImplicit false
/-! Suites behind except: without a name; what may stand in them. -/
namespace WT
open PySem PySem.Spec PyProof.Rows L2

section
variable {g : Gx} {W : WX} {C : Ctx} {X : Cx} {pos pos' : Pos}
theorem unset_none {o : Out} {T : List (PV × V)} {D : Ends} (h : outW g W (o.unset none) T D) : outW g W0 o T D := by
  cases o with
  | nx ε M => exact h
  | bk ε M => exact h
  | ct ε M => exact h
  | rt v M => exact h
  | er e ε M => exact False.elim h
  | stuck => exact h
/-- try .. except B -/
theorem s_tryN {c : Nat} {x : Str} {body suite : List Stmt} {b0 : Stmt} {np : Pos} {cb cs : List CS} (hst : X.stack = X.env :: X.outer) (hfr : X.env.frame = some X.env.locals) (hcn : Names X x (.ref (g.ca c))) (tk : Takes X W)
    (hsub : ∀ d l, clsOk C.G true d = some l → PySem.W.exmOne X.K (.ref (g.ca d)) (.ref (g.ca c)) = some (l.contains c))
    (hb : ∀ (W' : WX) (pn : List (Addr × Obj)) (xe : Value → Shared → Prop), Takes (X.tr pn xe) W' → PassesOwn (model X.prog X.w) X.A X.env xe → SSs g W' C (X.tr pn xe) body cb)
    (hsu : ∀ (a : Addr) (pn : List (Addr × Obj)), SSs g W0 C (X.suite a pn) (b0 :: suite) cs) :
    SS1 g W C X (.Try body [.ExceptHandler (some (.Name x np)) none (b0 :: suite) pos'] [] [] pos) (.tryx cb c none cs) := by
  refine ⟨fun pins s σ H D I ⟨ρ, M, ε, T, R, h⟩ => (ps_try_only (ts := fun a cls d => tO g W0 (exs C cs)) (tb := fun W' => tO g W' (exs C cb)) hst hfr hcn tk hb (fun a oe cls d pn _ _ => hsu a ((a, oe) :: pn))).run pins s σ H D I ⟨ρ, M, ε, T, R, ?_⟩⟩
  have h : outW g W (catch_ C.G c none (fun ε M => exs C cs ε M) (exs C cb ε M)) T D := h
  cases q : exs C cb ε M with
  | er e ε1 M1 =>
    rw [q] at h
    intro ρ1 H1 cls d σ1 R1 rx
    obtain ⟨d0, fs, rfl, rfl, hdx⟩ := id rx
    have h1 : outW g W (match clsOk C.G true d0 with
      | some l => (match l.contains c with
        | true => (exs C cs ε1 M1).unset none
        | false => .er (.exc d0 fs) ε1 M1)
      | none => .stuck) T D := h
    cases hl : clsOk C.G true d0 with
    | none => rw [hl] at h1; exact h1.elim
    | some l =>
      rw [hl] at h1
      have h1 : outW g W (match l.contains c with
        | true => (exs C cs ε1 M1).unset none
        | false => .er (.exc d0 fs) ε1 M1) T D := h1
      refine ⟨l.contains c, hsub d0 l hl, fun hc a _ => ?_, fun hc => ?_⟩
      · rw [hc] at h1
        exact ⟨ρ1, M1, ε1, T, R1, unset_none h1⟩
      · rw [hc] at h1
        exact h1 ρ1 H1 _ d σ1 R1 rx
  | _ => rw [q] at h; exact h
end
section
variable {T : Tb} {g : Gx} {W : WX} {C : Ctx} {X : Cx} {x : Str} {p pos pos' : Pos} {o : Expr} {co : CE}
theorem y_tryN (F : Fx T g W C X) (j c : Nat) {body suite : List Stmt} {b0 : Stmt} {np : Pos} {cbd csu : List CS}
    (hb : ∀ (W' : WX) (pn : List (Addr × Obj)) (xe : Value → Shared → Prop), Fx T g W' C (X.tr pn xe) → SSs g W' C (X.tr pn xe) body cbd) (hsu : ∀ (a : Addr) (pn : List (Addr × Obj)), SSs g W0 C (X.suite a pn) (b0 :: suite) csu)
    (hj : T.glos[j]? = some x := by rfl) (hc : T.cns[c]? = some x := by rfl) (hx : (T.xm ++ T.xv.map (·.1)).contains c = true := by rfl) (hst : X.stack = X.env :: X.outer := by rfl) (hfr : X.env.frame = some X.env.locals := by rfl) (hg : Gl X x := by rfl) (hd : (x == ("__debug__" : Str)) = false := by decide +kernel) : SS1 g W C X (.Try body [.ExceptHandler (some (.Name x np)) none (b0 :: suite) pos'] [] [] pos) (.tryx cbd c none csu) := by
  have e1 : g.ca c = He.ga X.K x := by
    rw [F.hg]
    show He.ga X.K (T.cns.getD c "?") = _
    rw [List.getD, hc]
    rfl
  have gC := F.wd.glo j hj
  rw [← e1] at gC
  refine s_tryN hst hfr ⟨hg, hd, .inl gC⟩ F.tk (fun d l h => ?_) (fun W' pn xe tk pa => hb W' pn xe (F.tr tk pa)) hsu
  rw [F.cG] at h
  unfold clsOk at h
  split at h
  · rename_i h0
    have h0 : (T.G.excs.lookup d).isSome = true := eq_of_beq h0
    obtain ⟨b, hb'⟩ := Option.isSome_iff_exists.mp h0
    have hd' := F.wd.t.exc _ (lookup_in hb')
    have z := F.wd.f.exm d hd' c (List.contains_iff_mem.mp hx)
    rw [h] at z
    have z := of_decide_eq_true z
    rw [← F.hg] at z
    exact z
  · cases h
/-- an attribute that no property is, in a suite -/
theorem x_fldS (F : Fx T g W C X) (j : Nat) {a : Addr} {pn : List (Addr × Obj)} (ho : SE g W0 C (X.suite a pn) o co) (hx : g.nm j = x := by rfl) (hj : decide (j < T.nms.length) = true := by rfl) (hp : (T.G.props.all fun q => q.1.2 != j) = true := by rfl) (hb : attributeBase o x (X.suite a pn).env (eval o (X.suite a pn).env) = eval o (X.suite a pn).env := by rfl) : SE g W0 C (X.suite a pn) (.Attribute o x pos) (.fld co j) := by
  subst hx
  have f := F.fld hj
  exact se_fld (X := X.suite a pn) ⟨f.inj, f.fld, fun c f h => by
    rw [F.cG] at h
    have := ball hp _ (lookup_in h)
    simp at this, fun c h => by
    rw [F.cG] at h
    have h := List.contains_iff_mem.mp h
    have hgg := F.hg
    have z := F.wd.f.xfld _ h
    have y := (F.wd.f.ex c (List.mem_append_right _ (F.wd.t.xfld _ h))).c
    rw [← hgg] at z y
    exact @excAttr g (X.suite a pn) c j ⟨y.hg, y.hk, y.hs, y.hd⟩ z⟩ F.gd ho hb
theorem y_setS {T : Tb} (F : Fx T g W C X) (i : Nat) {a : Addr} {pn : List (Addr × Obj)} {e : Expr} {c : CE} (he : SE g W0 C (X.suite a pn) e c) (hi : X.N[i]? = some x := by rfl) (hx : Loc X.env.scope x := by first | exact Or.inl rfl | exact Or.inr rfl) (hs : swapsWith e (some (.Name x pos')) pos.line X.env = pure false := by rfl) (hf : X.fn x = true ∨ X.env.scope.names.lookup x = some .local := by first | exact Or.inr rfl | exact Or.inl rfl) : SS1 g W0 C (X.suite a pn) (.Assign [.Name x pos'] e pos) (.asg (.nm i) c) :=
  s_set (X := X.suite a pn) F.nd hi hx he hs hf
end
end WT
set_option maxRecDepth 100000
set_option autoImplicit false
/-! The laws' names, drawn. -/
namespace WT
noncomputable section
open PySem (Str CmpOp Operator PyData)
theorem app_list (a b : Str) : (a ++ b).cps.toList = a.cps.toList ++ b.cps.toList := by
  show (a.cps ++ b.cps).toList = _
  simp
theorem str_ext {a b : Str} (h : a.cps.toList = b.cps.toList) : a = b := by
  cases a with | mk x => cases b with | mk y =>
  have : x = y := Array.toList_inj.mp h
  rw [this]
/-- the signs that names end with -/
def sgs : Str := "qjxzetaoinshrdlcumwfgypbvk"
def sgc : List Nat := sgs.cps.toList
theorem sgc_len : sgc.length = 26 := by decide +kernel
theorem sgs_len : sgs.length = 26 := by decide +kernel
theorem sgc_nodup : sgc.Nodup := by decide +kernel
theorem sgc_ok : ∀ c ∈ sgc, letOk c = true ∧ c < 0x110000 := by decide +kernel
/-- the p-th name drawn -/
def Nam (f p : Nat) (s : Str) : Prop := ∃ (l : List Nat) (c : Nat), l.length ≤ 5 ∧ (∀ x ∈ l, x ∈ sgc) ∧ sgc[(f + 7 * p) % 26]? = some c ∧ s.cps.toList = l ++ [c]
theorem Nam.ok {f p : Nat} {s : Str} (h : Nam f p s) : nmS s = true ∧ PyData.strOk s = true := by
  obtain ⟨l, c, h1, h2, h3, h4⟩ := h
  have hc : c ∈ sgc := List.mem_of_getElem? h3
  have hl : s.length = l.length + 1 := by
    show s.cps.size = _
    rw [← Array.length_toList, h4, List.length_append]
    rfl
  have ha : ∀ x ∈ l ++ [c], x ∈ sgc := fun x hx => by
    rcases List.mem_append.mp hx with hx | hx
    · exact h2 x hx
    · rw [List.mem_singleton.mp hx]; exact hc
  refine ⟨?_, ?_⟩
  · unfold nmS
    rw [h4, decide_eq_true (by omega), decide_eq_true (by omega), List.all_eq_true.mpr fun x hx => (sgc_ok x (ha x hx)).1]
    rfl
  · show s.cps.all (fun c => decide (c < 0x110000)) = true
    rw [← Array.all_toList, h4]
    exact List.all_eq_true.mpr fun x hx => decide_eq_true (sgc_ok x (ha x hx)).2
theorem Nam.ne {f p q : Nat} {s : Str} (h : Nam f p s) (h' : Nam f q s) (hp : p < 26) (hq : q < 26) : p = q := by
  obtain ⟨l, c, _, _, h3, h4⟩ := h
  obtain ⟨l', c', _, _, h3', h4'⟩ := h'
  have e : c = c' := by
    have := (List.append_inj' (h4.symm.trans h4') rfl).2
    simpa using this
  subst e
  have := (List.getElem?_inj (i := (f + 7 * p) % 26) (j := (f + 7 * q) % 26) (by rw [sgc_len]; omega) sgc_nodup).mp (h3.trans h3'.symm)
  omega
theorem names_nodup {f : Nat} {ns : List Str} (h : ∀ p s, ns[p]? = some s → Nam f p s) (hl : ns.length ≤ 26) : ns.Nodup := by
  refine List.pairwise_iff_getElem.mpr fun i j hi hj hij he => ?_
  have a := h i ns[i] (List.getElem?_eq_getElem hi)
  have b := h j ns[i] (by rw [he]; exact List.getElem?_eq_getElem hj)
  have := a.ne b (by omega) (by omega)
  omega
section
variable {G : Glo} {w fd fp fn : Nat} {n : Nat} {M N : Mem} {i : Nat} {k : Int}
theorem drawN {m : Int} (hfd : G.fns[fd]? = some (.fn ⟨2, 3, drawB⟩)) (hD : DS M i k) (hk : k < 2 ^ 40) (hn : 0 < m) (hn2 : m < 2 ^ 62) :
    ∃ (d : Nat) (a b c : Int), WT.call G w (n + 1) fd [.ref i, .int m] M = .ok (.int (d : Int)) (M.set i (stC a b c)) ∧ (d : Int) < m ∧ DS (M.set i (stC a b c)) i (k + 1) := by
  obtain ⟨d, a, b, c, e, d0, d1, h⟩ := draw_call (G := G) (w := w) (n := n) (f := fd) hfd hD hk hn hn2
  obtain ⟨j, rfl⟩ := Int.eq_ofNat_of_zero_le d0
  exact ⟨j, a, b, c, e, d1, h⟩
theorem i_str {j c : Nat} (h : sgc[j]? = some c) : getIx M (.str sgs) (.int (j : Int)) = .ok (.str (sgn c)) M := by
  have hj := (List.getElem?_eq_some_iff.mp h).1
  show ofOpt M ((L2.atI sgc (j : Int)).map fun c => .str ⟨#[c]⟩) = _
  have : L2.atI sgc (j : Int) = some c := by
    unfold L2.atI L2.ixN
    rw [if_pos (by omega), if_pos (by omega)]
    simpa using h
  rw [this]
  rfl
/-- one of the signs is picked -/
theorem pickS (hfd : G.fns[fd]? = some (.fn ⟨2, 3, drawB⟩)) (hfp : G.fns[fp]? = some (.fn ⟨2, 2, pickB fd⟩)) (hD : DS M i k) (hk : k < 2 ^ 40) : ∃ (v : PV) (a b c : Int), WT.call G w (n + 2) fp [.ref i, .str sgs] M = .ok v (M.set i (stC a b c)) ∧ (∃ x ∈ sgc, v = .str (sgn x)) ∧ DS (M.set i (stC a b c)) i (k + 1) := by
  obtain ⟨d, a, b, c, e, d1, hD'⟩ := drawN (w := w) hfd (n := n) hD hk (m := 26) (by omega) (by omega)
  have hd : d < sgc.length := by rw [sgc_len]; omega
  refine ⟨.str (sgn sgc[d]), a, b, c, call_set (f := fp) hfp rfl rfl rfl ?_, ⟨_, List.getElem_mem hd, rfl⟩, hD'⟩
  have el : ∀ N : Mem, bfn .len false [.str sgs] N = .ok (.int 26) N := fun N => by
    show ofOpt N (some (.int (sgs.length : Int))) = _
    rw [sgs_len]
    rfl
  show exs ⟨WT.call G w (n + 1), w, G⟩ (pickB fd) [some (.ref i), some (.str sgs)] M = _
  simp only [pickB, xs_cons, x_ret, e_idx, e_loc0, e_locS, e_call, es_cons, es_nil, e_bfn, r_bind, el, e, i_str (List.getElem?_eq_getElem hd), r_out, o_rt]
theorem strsOf_map : ∀ xs : List Str, strsOf (xs.map .str) = some xs
  | [] => rfl
  | x :: r => by
    show (strsOf (r.map .str)).map (x :: ·) = _
    rw [strsOf_map r]
    rfl
theorem glue_sgn : ∀ xs : List Nat, (PySem.Str.join "" (xs.map sgn)).cps.toList = xs
  | [] => rfl
  | [x] => rfl
  | x :: y :: r => by
    show (sgn x ++ ("" : Str) ++ PySem.Str.join "" ((y :: r).map sgn)).cps.toList = _
    rw [app_list, app_list, glue_sgn (y :: r)]
    rfl
/-- single signs, joined -/
theorem join_sgn {vs : List PV} (hl : vs.length ≤ 5) (h : ∀ v ∈ vs, ∃ x ∈ sgc, v = PV.str (sgn x)) : ∃ (s : Str), bmeth .join false (.str "") [.lst vs] M = .ok (.str s) M ∧ s.cps.toList.length ≤ 5 ∧ ∀ x ∈ s.cps.toList, x ∈ sgc := by
  obtain ⟨xs, rfl, hx⟩ : ∃ xs : List Nat, vs = (xs.map sgn).map .str ∧ ∀ x ∈ xs, x ∈ sgc := by
    clear hl
    induction vs with
    | nil => exact ⟨[], rfl, fun x hx => by cases hx⟩
    | cons v r ih =>
      obtain ⟨xs, rfl, hx⟩ := ih fun u hu => h u (List.mem_cons_of_mem _ hu)
      obtain ⟨x, h1, rfl⟩ := h v List.mem_cons_self
      exact ⟨x :: xs, rfl, fun y hy => by
        rcases List.mem_cons.mp hy with rfl | hy
        · exact h1
        · exact hx y hy⟩
  simp only [List.length_map] at hl
  have ej : PySem.Txt.join "" (xs.map sgn) = PySem.Str.join "" (xs.map sgn) := PySem.StrLaws.glued_eq_join _ _
  have eg := glue_sgn xs
  refine ⟨PySem.Txt.join "" (xs.map sgn), ?_, by rw [ej, eg]; exact hl, by rw [ej, eg]; exact hx⟩
  show (match (some ((xs.map sgn).map PV.str)).bind strsOf with
    | some xs => WT.guard (decide ((xs.map Str.length).sum + xs.length * ("" : Str).length ≤ sline) && decide ((PySem.Txt.join "" xs).length ≤ sline)) (.ok (.str (PySem.Txt.join "" xs)) M)
    | none => Res.stuck) = _
  rw [Option.bind_some, strsOf_map]
  have e1 : ((xs.map sgn).map Str.length).sum = xs.length := by
    clear hl hx h ej eg
    induction xs with
    | nil => rfl
    | cons x r ih =>
      rw [List.map_cons, List.map_cons, List.sum_cons, ih]
      show 1 + r.length = _
      rw [List.length_cons]
      omega
  have e2 : (PySem.Txt.join "" (xs.map sgn)).length = xs.length := by
    rw [ej]
    show (PySem.Str.join "" (xs.map sgn)).cps.size = _
    rw [← Array.length_toList, eg]
  have e3 : ("" : Str).length = 0 := rfl
  show WT.guard (decide (((xs.map sgn).map Str.length).sum + (xs.map sgn).length * ("" : Str).length ≤ sline) && decide ((PySem.Txt.join "" (xs.map sgn)).length ≤ sline)) _ = _
  rw [e1, e2, e3, decide_eq_true (by unfold sline; omega), decide_eq_true (by unfold sline; omega)]
  rfl
end
theorem e_bme (C : Ctx) (ε : Env) (M : Mem) (o : CE) (b : BM) (m : Bool) (as : List CE) : ev C (.bme o b m as) ε M = (ev C o ε M).bind fun x M => (match bmOk b (rd M x) with
  | true => (evs C as ε M).bind fun vs M => bmeth b m x vs M
  | false => .stuck) := id rfl
theorem rng_ok (d : Nat) (h : d < 4611686018427387904) : (decide (-4611686018427387904 ≤ (d : Int)) && decide ((d : Int) < 4611686018427387904)) = true := by
  rw [decide_eq_true (by omega), decide_eq_true (by omega)]
  rfl
theorem evi_r1 (C : Ctx) (a : CE) (ε : Env) (M : Mem) : evi C (.rng1 a) ε M = (ev C a ε M).bind fun v M => (match v with
    | .int n => if decide (-4611686018427387904 ≤ n) && decide (n < 4611686018427387904) then .ok ((List.range n.toNat).map fun (i : Nat) => .int (i : Int), []) M else .stuck
    | _ => .stuck) := id rfl
theorem evi_rng {C : Ctx} {a : CE} {ε : Env} {M M1 : Mem} {d : Nat} (h : ev C a ε M = .ok (.int (d : Int)) M1) (hd : d < 4611686018427387904) : evi C (.rng1 a) ε M = .ok ((List.range d).map fun (j : Nat) => PV.int (j : Int), []) M1 := by
  rw [evi_r1, h, r_bind]
  show (if _ then _ else _) = _
  rw [if_pos (rng_ok d hd), Int.toNat_natCast]
theorem rd_last {N : Mem} {xs : List PV} {L : Nat} (h : N.length = L) : rd (N ++ [Cell.lst xs]) (.ref L) = .lst xs := by
  show (match (N ++ [Cell.lst xs])[L]? with
    | some (.lst xs) => PV.lst xs
    | some (.dic kvs) => .dic kvs
    | some (.ins c fs) => .ins c fs
    | _ => .ref L) = _
  rw [← h]
  simp
theorem app_last {N : Mem} {xs : List PV} {L : Nat} {v : PV} (h : N.length = L) (hl : xs.length < sline) : bmeth .append false (.ref L) [v] (N ++ [Cell.lst xs]) = .ok .non (N ++ [Cell.lst (xs ++ [v])]) := by
  have e : (N ++ [Cell.lst xs])[L]? = some (.lst xs) := by rw [← h]; simp
  simp only [bmeth, e]
  show WT.guard (decide (xs.length < sline)) (.ok .non ((N ++ [Cell.lst xs]).set L (.lst (xs ++ [v])))) = _
  rw [decide_eq_true hl, ← h]
  show Res.ok PV.non _ = _
  simp
/-- the def that draws names, over the defs that draw and pick -/
def namesB1 (fd fp : Nat) : List CS := [(.asg (.nm 6) (.bme (.lit (.str "")) .join false [(.lc false [7] (.call fp [(.loc 0), (.loc 2)]) (.nm 7) (.rng1 (.call fd [(.loc 0), (.lit (.int 6))])) [])])), (.expr (.bme (.loc 4) .append false [(.bin .Add false (.loc 6) (.idx (.loc 2) (.bin .Mod false (.bfn .intOf false [(.bin .Add false (.loc 3) (.bin .Mult false (.lit (.int 7)) (.loc 5)))]) (.lit (.int 26)))))]))]
def namesB (fd fp : Nat) : List CS := [(.asg (.tup [(.nm 2), (.nm 3)]) (.tup [(.lit (.str "qjxzetaoinshrdlcumwfgypbvk")), (.call fd [(.loc 0), (.lit (.int 26))])])), (.asg (.nm 4) (.lst true [])), (.for_ (.nm 5) (.rng1 (.loc 1)) (namesB1 fd fp)), (.gh 4 (.ret (.loc 4)))]
section
variable {G : Glo} {w fd fp fn : Nat} {n : Nat} {N : Mem} {i L : Nat} {k : Int}
theorem joinLC (hfd : G.fns[fd]? = some (.fn ⟨2, 3, drawB⟩)) (hfp : G.fns[fp]? = some (.fn ⟨2, 2, pickB fd⟩)) {ε : Env} {X : Cell} (hε : ε[0]? = some (some (.ref i))) (hε2 : ε[2]? = some (some (.str sgs))) (hw : (wipeE ε [7])[0]? = some (some (.ref i)) ∧ (wipeE ε [7])[2]? = some (some (.str sgs))) (hD : DS N i k) (hk : k + 6 < 2 ^ 39) :
    ∃ (s : Str) (a b c : Int), ev ⟨WT.call G w (n + 2), w, G⟩ (.bme (.lit (.str "")) .join false [(.lc false [7] (.call fp [(.loc 0), (.loc 2)]) (.nm 7) (.rng1 (.call fd [(.loc 0), (.lit (.int 6))])) [])]) ε (N ++ [X]) = .ok (.str s) (N.set i (stC a b c) ++ [X]) ∧ s.cps.toList.length ≤ 5 ∧ (∀ x ∈ s.cps.toList, x ∈ sgc) ∧ DS (N.set i (stC a b c)) i (k + 6) := by
  obtain ⟨d, a1, b1, c1, e1, d1, hD1⟩ := drawN (w := w) hfd (n := n + 1) (M := N ++ [X]) (m := 6) hD.app (by omega) (by omega) (by omega)
  rw [set_app hD.lt] at e1 hD1
  generalize hN1 : N.set i (stC a1 b1 c1) = N1 at e1 hD1
  have hl1 : N1.length = N.length := by rw [← hN1]; simp
  have hi1 : i < N1.length := by rw [hl1]; exact hD.lt
  have hit : evi ⟨WT.call G w (n + 2), w, G⟩ (.rng1 (.call fd [(.loc 0), (.lit (.int 6))])) ε (N ++ [X]) = .ok ((List.range d).map fun (j : Nat) => PV.int (j : Int), []) (N1 ++ [X]) := evi_rng (by
    rw [e_call, es_cons, e_loc hε, r_bind, es_cons, e_lit, r_bind, es_nil]
    exact e1) (by omega)
  obtain ⟨vs, a2, b2, c2, e2, v1, v2, hD2⟩ := e_lcD (C := ⟨WT.call G w (n + 2), w, G⟩) (own := [7]) (t := .nm 7) (ce := .call fp [(.loc 0), (.loc 2)]) (i := i) (R := fun v => ∃ x ∈ sgc, v = .str (sgn x)) (K := 2 ^ 40) (d := 1) (k := k + 1) hit (by omega) hD1 (by rw [List.length_map, List.length_range]; omega) (by rw [List.length_map, List.length_range]; unfold sline; omega) (fun v ⟨x, _, hx⟩ => by rw [hx]; rfl) (fun x hx N' acc k' hl' hD' hk' => by
      obtain ⟨v, a, b, c, e, hv, hd⟩ := pickS (w := w) hfd hfp (n := n) (M := N' ++ [Cell.lst acc]) hD'.app (by omega)
      rw [set_app hD'.lt] at e hd
      refine ⟨_, v, a, b, c, rfl, ?_, hv, hd.unapp (by rw [List.length_set]; exact hD'.lt)⟩
      have g0 : ((wipeE ε [7]).set 7 (some x))[0]? = some (some (.ref i)) := by rw [List.getElem?_set_ne (by omega)]; exact hw.1
      have g2 : ((wipeE ε [7]).set 7 (some x))[2]? = some (some (.str sgs)) := by rw [List.getElem?_set_ne (by omega)]; exact hw.2
      rw [e_call, es_cons, e_loc g0, r_bind, es_cons, e_loc g2, r_bind, es_nil, r_bind, r_bind, r_bind]
      exact e)
  rw [set_app hi1] at e2 hD2
  have vl : vs.length ≤ 5 := by rw [v1, List.length_map, List.length_range]; omega
  obtain ⟨s, hj, s1, s2⟩ := join_sgn (M := N1.set i (stC a2 b2 c2) ++ [X]) vl v2
  have es : N1.set i (stC a2 b2 c2) = N.set i (stC a2 b2 c2) := by rw [← hN1, List.set_set]
  refine ⟨s, a2, b2, c2, ?_, s1, s2, (DS.unapp hD2 (by rw [List.length_set]; exact hi1) |> fun h => by rw [es] at h; exact h.mono (by rw [List.length_map, List.length_range]; omega))⟩
  rw [e_bme, e_lit, r_bind]
  show (evs _ [_] ε (N ++ [X])).bind _ = _
  rw [es_cons, e2, r_bind, es_nil, r_bind, r_bind, hj, es]
/-- one more name -/
theorem nameTurn (hfd : G.fns[fd]? = some (.fn ⟨2, 3, drawB⟩)) (hfp : G.fns[fp]? = some (.fn ⟨2, 2, pickB fd⟩)) {m : PV} {o : Option PV} {f j : Nat} {ns : List Str} (hL : N.length = L) (hD : DS N i k) (hk : k + 6 < 2 ^ 39) (hf : f < 26) (hj : j < 26) (hn : ns.length ≤ 26) :
    ∃ (s : Str) (o' : Option PV) (a b c : Int), exs ⟨WT.call G w (n + 2), w, G⟩ (namesB1 fd fp) [some (.ref i), some m, some (.str sgs), some (.int (f : Int)), some (.ref L), some (.int (j : Int)), o, none] (N ++ [.lst (ns.map .str)])
      = .nx [some (.ref i), some m, some (.str sgs), some (.int (f : Int)), some (.ref L), some (.int (j : Int)), o', none] (N.set i (stC a b c) ++ [.lst ((ns ++ [s]).map .str)]) ∧ Nam f j s ∧ DS (N.set i (stC a b c)) i (k + 6) := by
  obtain ⟨s, a, b, c, e, s1, s2, hD'⟩ := joinLC (w := w) hfd hfp (n := n) (X := .lst (ns.map .str)) (ε := [some (.ref i), some m, some (.str sgs), some (.int (f : Int)), some (.ref L), some (.int (j : Int)), o, none]) rfl rfl ⟨rfl, rfl⟩ hD hk
  have hlt : (f + 7 * j) % 26 < sgc.length := by rw [sgc_len]; omega
  have hc : sgc[(f + 7 * j) % 26]? = some sgc[(f + 7 * j) % 26] := List.getElem?_eq_getElem hlt
  generalize hcc : sgc[(f + 7 * j) % 26] = ch at hc
  refine ⟨s ++ sgn ch, some (.str s), a, b, c, ?_, ⟨s.cps.toList, ch, s1, s2, hc, by rw [app_list]; rfl⟩, hD'⟩
  have k1 : mulOk 7 (j : Int) = true := mulOk_of (k := 20) (l := 41) (by decide) (natAbs_lt (by omega) (by omega)) (by decide) (by decide) (by decide)
  have k2 : (0 : Int) < 26 := by decide
  have e7 : ((f : Int) + 7 * (j : Int)) % 26 = (((f + 7 * j) % 26 : Nat) : Int) := by omega
  have hs : s.length ≤ 5 := by
    show s.cps.size ≤ 5
    rw [← Array.length_toList]
    exact s1
  have ea : ∀ M, binop false .Add (.str s) (.str (sgn ch)) M = .ok (.str (s ++ sgn ch)) M := fun M => by
    show WT.guard (decide (s.length + (sgn ch).length ≤ sline)) _ = _
    rw [decide_eq_true (by show s.length + 1 ≤ sline; unfold sline; omega)]
    rfl
  have hl : (N.set i (stC a b c)).length = L := by rw [List.length_set]; exact hL
  unfold namesB1
  rw [xs_cons, x_asgN, e, r_out, o_nx]
  simp only [List.set_cons_succ, List.set_cons_zero]
  rw [xs_cons, x_expr, e_bme]
  simp only [e_locS, e_loc0, r_bind]
  rw [rd_last hl]
  show (((evs _ [_] _ _).bind _).out _ _).seq _ = _
  simp only [es_cons, es_nil, e_bin, e_idx, e_bfn, e_lit, e_locS, e_loc0, r_bind, b_mulI false k1, b_addI, f_int, b_modI false k2, e7, i_str hc, ea]
  rw [app_last hl (by rw [List.length_map]; unfold sline; omega), r_out, o_nx, xs_nil, List.map_append]
  rfl
/-- the def that draws names -/
theorem namesCall (hfd : G.fns[fd]? = some (.fn ⟨2, 3, drawB⟩)) (hfp : G.fns[fp]? = some (.fn ⟨2, 2, pickB fd⟩)) (hfn : G.fns[fn]? = some (.fn ⟨2, 8, namesB fd fp⟩)) {M : Mem} {m : Nat} (hD : DS M i k) (hk : k + 200 < 2 ^ 39) (hm : m ≤ 26) :
    ∃ (f : Nat) (ns : List Str) (a b c : Int), WT.call G w (n + 3) fn [.ref i, .int (m : Int)] M = .ok (.lst (ns.map .str)) (M.set i (stC a b c)) ∧ ns.length = m ∧ (∀ p s, ns[p]? = some s → Nam f p s) ∧ DS (M.set i (stC a b c)) i (k + 160) := by
  obtain ⟨f, a0, b0, c0, e0, f26, hD0⟩ := drawN (w := w) hfd (n := n + 1) (m := 26) hD (by omega) (by omega) (by omega)
  have hf : f < 26 := by omega
  generalize hM0 : M.set i (stC a0 b0 c0) = M0 at e0 hD0
  have hl0 : M0.length = M.length := by rw [← hM0]; simp
  obtain ⟨ε', M', h1, h2⟩ := for_inv (t := .nm 5) (body := fun ε M => exs ⟨WT.call G w (n + 2), w, G⟩ (namesB1 fd fp) ε M)
    (fun j ε K => ∃ (ns : List Str) (o5 o6 : Option PV) (a b c : Int), ε = [some (.ref i), some (.int (m : Int)), some (.str sgs), some (.int (f : Int)), some (.ref M.length), o5, o6, none] ∧ K = M.set i (stC a b c) ++ [Cell.lst (ns.map .str)] ∧ ns.length = j ∧ (∀ p s, ns[p]? = some s → Nam f p s) ∧ DS (M.set i (stC a b c)) i (k + 1 + 6 * (j : Int)))
    ((List.range m).map fun (j : Nat) => PV.int (j : Int)) 0 [some (.ref i), some (.int (m : Int)), some (.str sgs), some (.int (f : Int)), some (.ref M.length), none, none, none] (M0 ++ [Cell.lst []])
    ⟨[], none, none, a0, b0, c0, rfl, by rw [hM0]; rfl, rfl, fun p s h => by simp at h, by rw [hM0]; simpa using hD0⟩ (fun j x ε K hj ⟨ns, o5, o6, a, b, c, hε, hK, hns, hN, hDj⟩ => by
      subst hε hK
      rw [List.getElem?_map] at hj
      obtain ⟨j', hj', rfl⟩ := Option.map_eq_some_iff.mp hj
      obtain ⟨hlt, hje⟩ := List.getElem?_eq_some_iff.mp hj'
      rw [List.length_range] at hlt
      have hje : j' = j := by simpa using hje.symm
      subst hje
      rw [Nat.zero_add] at hns hDj
      obtain ⟨s, o', a2, b2, c2, e, hs, hD2⟩ := nameTurn (w := w) hfd hfp (n := n) (N := M.set i (stC a b c)) (L := M.length) (m := .int (m : Int)) (o := o6) (f := f) (j := j') (ns := ns) (by simp) hDj (by omega) hf (by omega) (by omega)
      rw [List.set_set] at e hD2
      refine ⟨_, _, _, rfl, .inl e, ns ++ [s], _, _, a2, b2, c2, rfl, rfl, by simp [hns], fun p t ht => ?_, hD2.mono (by push_cast; omega)⟩
      rcases Nat.lt_or_ge p ns.length with hp | hp
      · rw [List.getElem?_append_left hp] at ht
        exact hN p t ht
      · rw [List.getElem?_append_right hp] at ht
        have hp0 : p - ns.length = 0 := by
          have := (List.getElem?_eq_some_iff.mp ht).1
          simp at this
          omega
        rw [hp0] at ht
        have : s = t := by simpa using ht
        rw [← this, show p = j' by omega]
        exact hs)
  obtain ⟨ns, o5, o6, a, b, c, hε, hK, hns, hN, hDm⟩ := h2
  subst hε hK
  rw [List.length_map, List.length_range, Nat.zero_add] at hns hDm
  refine ⟨f, ns, a, b, c, ?_, hns, hN, hDm.mono (by omega)⟩
  rw [call_fn hfn rfl]
  have er : ∀ ε N, evi ⟨WT.call G w (n + 2), w, G⟩ (.rng1 (.loc 1)) (some (.ref i) :: some (.int (m : Int)) :: ε) N = .ok ((List.range m).map fun (j : Nat) => PV.int (j : Int), []) N := fun ε N => evi_rng rfl (by omega)
  have e : exs ⟨WT.call G w (n + 2), w, G⟩ (namesB fd fp) [some (.ref i), some (.int (m : Int)), none, none, none, none, none, none] M = .rt (.lst (ns.map .str)) (M.set i (stC a b c) ++ [Cell.dead]) := by
    have e1 : ∀ r, exs ⟨WT.call G w (n + 2), w, G⟩ ((.asg (.tup [(.nm 2), (.nm 3)]) (.tup [(.lit (.str sgs)), (.call fd [(.loc 0), (.lit (.int 26))])])) :: r) [some (.ref i), some (.int (m : Int)), none, none, none, none, none, none] M = exs ⟨WT.call G w (n + 2), w, G⟩ r [some (.ref i), some (.int (m : Int)), some (.str sgs), some (.int (f : Int)), none, none, none, none] M0 := fun r => by
      generalize sgs = S
      rw [xs_cons, x_asg, e_tup]
      simp only [es_cons, es_nil, e_lit, e_call, e_loc0, r_bind, e0, r_out]
      rfl
    refine (e1 _).trans ?_
    rw [xs_cons, x_asgN, e_lstC, es_nil, r_bind, r_out, o_nx, hl0]
    simp only [List.set_cons_succ, List.set_cons_zero]
    rw [xs_cons, x_for (er _ _), h1, o_nx]
    have ef : frzE 4 [some (.ref i), some (.int (m : Int)), some (.str sgs), some (.int (f : Int)), some (.ref M.length), o5, o6, none] (M.set i (stC a b c) ++ [Cell.lst (ns.map .str)]) = ([some (.ref i), some (.int (m : Int)), some (.str sgs), some (.int (f : Int)), some (.lst (ns.map .str)), o5, o6, none], M.set i (stC a b c) ++ [Cell.dead]) := by
      have hl : (M.set i (stC a b c) ++ [Cell.lst (ns.map .str)])[M.length]? = some (.lst (ns.map .str)) := by rw [List.getElem?_append_right (by simp)]; simp
      show (match (M.set i (stC a b c) ++ [Cell.lst (ns.map .str)])[M.length]? with
        | some (.lst xs) => (_, _)
        | some (.dic kvs) => (_, _)
        | _ => (_, _)) = _
      rw [hl]
      show (_, (M.set i (stC a b c) ++ [Cell.lst (ns.map .str)]).set M.length .dead) = _
      rw [List.set_append_right _ _ (by simp)]
      simp
    have eg : ∀ (ε : Env) (K : Mem), exs ⟨WT.call G w (n + 2), w, G⟩ [.gh 4 (.ret (.loc 4))] ε K = exs ⟨WT.call G w (n + 2), w, G⟩ [.ret (.loc 4)] (frzE 4 ε K).1 (frzE 4 ε K).2 := fun _ _ => rfl
    rw [eg, ef]
    rfl
  show finO M (exs ⟨WT.call G w (n + 2), w, G⟩ (namesB fd fp) [some (.ref i), some (.int (m : Int)), none, none, none, none, none, none] M) = _
  rw [e]
  show Res.ok (PV.lst (ns.map .str)) (fin M (PV.lst (ns.map .str)) _).2 = _
  have hA : M.length ≤ (M.set i (stC a b c)).length := by simp
  have hlt : PV.lt M.length (PV.lst (ns.map .str)) = true := lts_of fun x hx => by
    obtain ⟨s, _, rfl⟩ := List.mem_map.mp hx
    rfl
  rw [fin_of hlt ((Grow.refl.set rfl).appR _), List.take_append_of_le_length hA, List.take_of_length_le (by simp)]
end
end
end WT
set_option maxRecDepth 100000
set_option autoImplicit false
/-! Tools for plain laws, more. -/
namespace WT
noncomputable section
open PySem (Str CmpOp Operator PyData)
section
variable {n : Nat} {M N : Mem} {x v : PV} {xs ys : List PV} {L : List Cell} {ns : List Str} {k : Nat} {ε : Env}
theorem fin_app (hv : v.lt M.length = true) : finO M (.rt v (M ++ L)) = .ok v M := by
  show Res.ok v (fin M v (M ++ L)).2 = _
  rw [fin_of hv .app]
  simp
theorem tup2_lt {x y : PV} {n : Nat} (h1 : x.lt n = true) (h2 : y.lt n = true) : PV.lt n (.tup [x, y]) = true := by
  show (x.lt n && (y.lt n && true)) = true
  rw [h1, h2]
  rfl
theorem fin_err (hv : v.lt M.length = true) {ε : Env} : finO M (.er v ε (M ++ L)) = .err v M := by
  show Res.err v (fin M v (M ++ L)).2 = _
  rw [fin_of hv .app]
  simp
theorem fin_err0 (hv : v.lt M.length = true) {ε : Env} : finO M (.er v ε M) = .err v M := by
  show Res.err v (fin M v M).2 = _
  rw [fin_self hv]
theorem x_setf (C : Ctx) (ε : Env) (M : Mem) (o : CE) (k : Nat) (e : CE) : ex C (.setf o k e) ε M = (ev C e ε M).out ε fun v M => (ev C o ε M).out ε fun x M => (match x with
    | .ref i => (match M[i]? with
      | some (.ins c fs) => (match decide (fs.length < 1000) && C.G.flds.contains (c, k) with
        | true => .nx ε (M.set i (.ins c (putF k v fs)))
        | false => .stuck)
      | _ => .stuck)
    | _ => .stuck) := id rfl
theorem call_mk {G : Glo} {w n f c init : Nat} {fr : Bool} {as : List PV} {M : Mem} (h : G.fns[f]? = some (.mk c init fr)) : WT.call G w (n + 1) f as M = (WT.call G w n init (.ref M.length :: as) (M ++ [.ins c []])).bind fun r M1 => mkEnd fr M r M1 := by
  show (match G.fns[f]? with
    | some d => runFn ⟨WT.call G w n, w, G⟩ d as M
    | none => .stuck) = _
  rw [h]
  rfl
theorem x_tryx (C : Ctx) (ε : Env) (M : Mem) (body : List CS) (c : Nat) (i : Option Nat) (suite : List CS) : ex C (.tryx body c i suite) ε M = catch_ C.G c i (fun ε M => exs C suite ε M) (exs C body ε M) := id rfl
theorem showable_strs : ∀ ss : List Str, PyData.showableAll (ss.map PyData.str) = true
  | [] => rfl
  | x :: r => by
    show (true && PyData.showableAll (r.map PyData.str)) = true
    rw [showable_strs r]
    rfl
theorem nodict_strs : ∀ ss : List Str, PyData.hasDictAll (ss.map PyData.str) = false
  | [] => rfl
  | x :: r => by
    show (false || PyData.hasDictAll (r.map PyData.str)) = false
    rw [nodict_strs r]
    rfl
theorem short_strs : ∀ ss : List Str, (∀ s ∈ ss, PyData.strOk s = true) → PyData.leavesShortAll 8 (ss.map PyData.str) = true
  | [], _ => rfl
  | x :: r, h => by
    show ((x.cps.toList.all fun c => decide (c < 16 ^ 8)) && PyData.leavesShortAll 8 (r.map PyData.str)) = true
    rw [short_strs r fun s hs => h s (List.mem_cons_of_mem _ hs), Bool.and_true]
    have hx : x.cps.all (fun c => decide (c < 0x110000)) = true := h x List.mem_cons_self
    rw [← Array.all_toList] at hx
    refine List.all_eq_true.mpr fun c hc => decide_eq_true ?_
    have := of_decide_eq_true (List.all_eq_true.mp hx c hc)
    have e : (16 : Nat) ^ 8 = 4294967296 := by decide
    omega
theorem bulk_strs : ∀ ss : List Str, (∀ s ∈ ss, s.length ≤ 6) → PyData.bulkAll (ss.map PyData.str) ≤ 7 * ss.length
  | [], _ => Nat.le_refl _
  | x :: r, h => by
    show x.cps.size + 1 + PyData.bulkAll (r.map PyData.str) ≤ _
    have h1 := bulk_strs r fun s hs => h s (List.mem_cons_of_mem _ hs)
    have h2 : x.cps.size ≤ 6 := h x List.mem_cons_self
    rw [List.length_cons]
    omega
def Good (ss : List Str) : Prop := ∀ s ∈ ss, nmS s = true ∧ PyData.strOk s = true
theorem nm_len {s : Str} (h : nmS s = true) : 1 ≤ s.length ∧ s.length ≤ 6 := by
  unfold nmS at h
  rw [Bool.and_eq_true, Bool.and_eq_true] at h
  exact ⟨of_decide_eq_true h.1, of_decide_eq_true h.2.1⟩
theorem repr_strs {ss : List Str} (h : ∀ s ∈ ss, PyData.strOk s = true ∧ s.length ≤ 6) (hl : ss.length ≤ 50) (N : Mem) : bfn .repr false [.tup (ss.map .str)] N = .ok (.str (PyData.shown (.tuple (ss.map PyData.str)))) N := by
  refine f_repr false (d := .tuple (ss.map PyData.str)) ?_ ?_
  · show (deepWs _ (ss.map PV.str)).map PyData.tuple = _
    rw [deepWs_strs]
    rfl
  · unfold reprOk
    have e1 : PyData.showable (.tuple (ss.map PyData.str)) = true := showable_strs ss
    have e2 : PyData.hasDict (.tuple (ss.map PyData.str)) = false := nodict_strs ss
    have e3 : PyData.depth (.tuple (ss.map PyData.str)) = 1 := by
      show PyData.depthAll (ss.map PyData.str) + 1 = 1
      rw [depth_strs]
    have e4 : (PyData.shown (.tuple (ss.map PyData.str))).length ≤ sline := by
      have hb := bulk_strs ss fun s hs => (h s hs).2
      have := PyData.shown_le_bulk 8 (by omega) (.tuple (ss.map PyData.str)) (short_strs ss fun s hs => (h s hs).1)
      have hb2 : PyData.bulk (.tuple (ss.map PyData.str)) ≤ 7 * ss.length := hb
      unfold sline
      omega
    rw [e1, e2, e3, decide_eq_true e4]
    rfl
theorem eqv_strs : ∀ xs ys : List Str, PyData.eqvAll (xs.map PyData.str) (ys.map PyData.str) = decide (xs = ys)
  | [], [] => rfl
  | [], y :: s => rfl
  | x :: r, [] => rfl
  | x :: r, y :: s => by
    show ((x == y) && PyData.eqvAll (r.map PyData.str) (s.map PyData.str)) = _
    rw [eqv_strs r s, Bool.eq_iff_iff]
    simp
theorem eq_strs {M : Mem} {xs ys : List Str} (h : ∀ x ∈ xs, PyData.strOk x = true) (h2 : ∀ x ∈ ys, PyData.strOk x = true) : eqData M (.tup (xs.map .str)) (.tup (ys.map .str)) = some (decide (xs = ys)) := by
  have e1 : ∀ xs : List Str, deep M (.tup (xs.map .str)) = some (.tuple (xs.map PyData.str)) := fun xs => by
    show (deepWs _ (xs.map PV.str)).map PyData.tuple = _
    rw [deepWs_strs]
    rfl
  have e2 : ∀ xs : List Str, (∀ x ∈ xs, PyData.strOk x = true) → PySem.SeqAt.shaped (.tuple (xs.map PyData.str)) = true := fun xs h => shaped_strs h
  show (deep M (.tup (xs.map .str))).bind (fun d => (deep M (.tup (ys.map .str))).bind fun e => if PySem.SeqAt.shaped d && PySem.SeqAt.shaped e then some (PyData.eqv d e) else none) = _
  rw [e1, e1, Option.bind_some, Option.bind_some, e2 xs h, e2 ys h2]
  show some (PyData.eqvAll (xs.map PyData.str) (ys.map PyData.str)) = _
  rw [eqv_strs]
theorem rev_one {l : List Str} (h : l.Nodup) (h0 : 0 < l.length) : decide (l = l.reverse) = ((l.length : Int) == 1) := by
  rw [Bool.eq_iff_iff, decide_eq_true_eq, beq_iff_eq]
  constructor
  · intro e
    have e0 : l[0]? = l[l.length - 1]? := by
      conv => lhs; rw [e]
      rw [List.getElem?_reverse h0]
      simp
    have := (List.getElem?_inj h0 h).mp e0
    omega
  · intro e
    match l, h0 with
    | [x], _ => rfl
    | x :: y :: r, _ => simp at e; omega
theorem e_slc (C : Ctx) (ε : Env) (M : Mem) (m : Bool) (a lo hi : CE) : ev C (.slc m a lo hi) ε M = (ev C a ε M).bind fun x M => (ev C lo ε M).bind fun l M => withB l fun l => (ev C hi ε M).bind fun h M => withB h fun h => slice m x l h M := id rfl
theorem e_fld (C : Ctx) (ε : Env) (M : Mem) (e : CE) (k : Nat) : ev C (.fld e k) ε M = (ev C e ε M).bind fun x M => (match rd M x with
    | .ins c fs => (match fs.lookup k with
      | some v => (match C.G.flds.contains (c, k) with
        | true => .ok v M
        | false => .stuck)
      | none => (match C.G.props.lookup (c, k) with
        | some f => (match C.call f [x] M with
          | .ok v M => .ok v M
          | _ => .stuck)
        | none => .stuck))
    | .exc c fs => (match C.G.xflds.contains (c, k) with
      | true => ofOpt M (fs.lookup k)
      | false => .stuck)
    | _ => .stuck) := id rfl
theorem cut_drop {α : Type} (xs : List α) (k : Nat) : cut xs (some (k : Int)) none = xs.drop k := by
  unfold cut
  rw [HT.sIx_none, HT.sIx_nat]
  rcases Nat.le_total k xs.length with h | h
  · rw [Nat.min_eq_left h, List.take_of_length_le (by simp)]
  · rw [Nat.min_eq_right h, List.drop_length, List.drop_of_length_le h]
    simp
theorem app_at {M : Mem} {i : Nat} {xs : List PV} {v : PV} (h : M[i]? = some (.lst xs)) (hl : xs.length < sline) : bmeth .append false (.ref i) [v] M = .ok .non (M.set i (.lst (xs ++ [v]))) := by
  simp only [bmeth, h]
  show WT.guard (decide (xs.length < sline)) (.ok .non (M.set i (.lst (xs ++ [v])))) = _
  rw [decide_eq_true hl]
  rfl
theorem clear_at {M : Mem} {i : Nat} {xs : List PV} (h : M[i]? = some (.lst xs)) : bmeth .clear false (.ref i) [] M = .ok .non (M.set i (.lst [])) := by
  simp only [bmeth, h]
theorem rd_at {M : Mem} {i : Nat} {xs : List PV} (h : M[i]? = some (.lst xs)) : rd M (.ref i) = .lst xs := by
  show (match M[i]? with
    | some (.lst xs) => PV.lst xs
    | some (.dic kvs) => .dic kvs
    | some (.ins c fs) => .ins c fs
    | _ => .ref i) = _
  rw [h]
theorem lts_strs {n : Nat} {a : List Str} : PV.lts n (a.map .str) = true := lts_of fun x hx => by
  obtain ⟨s, _, rfl⟩ := List.mem_map.mp hx
  rfl
theorem sl_take (m : Bool) (k : Nat) (ns : List Str) : slice m (.lst (ns.map .str)) none (some (k : Int)) N = mkL m ((ns.take k).map .str) N := by
  show mkL m (cut (ns.map PV.str) none (some (k : Int))) N = _
  rw [cut_take, List.map_take]
theorem sl_drop (m : Bool) (k : Nat) (ns : List Str) : slice m (.lst (ns.map .str)) (some (k : Int)) none N = mkL m ((ns.drop k).map .str) N := by
  show mkL m (cut (ns.map PV.str) (some (k : Int)) none) N = _
  rw [cut_drop, List.map_drop]
theorem nodup_rev {l : List Str} (h : l.Nodup) : l.reverse.Nodup := List.pairwise_reverse.mpr (h.imp fun hab => hab.symm)
theorem ev_take {C : Ctx} {e1 e2 : CE} (m : Bool) (h1 : ev C e1 ε N = .ok (.lst (ns.map .str)) N) (h2 : ev C e2 ε N = .ok (.int (k : Int)) N) : ev C (.slc m e1 (.lit .non) e2) ε N = mkL m ((ns.take k).map .str) N := by
  rw [e_slc, h1, r_bind, e_lit, r_bind]
  show (ev C e2 ε N).bind _ = _
  rw [h2]
  exact sl_take m k ns
theorem ev_drop {C : Ctx} {e1 e2 : CE} (m : Bool) (h1 : ev C e1 ε N = .ok (.lst (ns.map .str)) N) (h2 : ev C e2 ε N = .ok (.int (k : Int)) N) : ev C (.slc m e1 e2 (.lit .non)) ε N = mkL m ((ns.drop k).map .str) N := by
  rw [e_slc, h1, r_bind, h2, r_bind]
  exact sl_drop m k ns
theorem ev_rev {C : Ctx} {e : CE} {xs : List PV} (h : ev C e ε N = .ok (.lst xs) N) : ev C (.rev false e) ε N = .ok (.lst xs.reverse) N := by
  show (ev C e ε N).bind _ = _
  rw [h]
  rfl
theorem ev_ne {C : Ctx} {e1 e2 : CE} {s : Str} (h1 : ev C e1 ε N = .ok (.str s) N) (h2 : ev C e2 ε N = .ok (.str s) N) : ev C (.cmp .NotEq e1 e2) ε N = .ok (.bl false) N := by
  rw [e_cmp, h1, r_bind, h2, r_bind, c_neS]
  simp
theorem or_ff {C : Ctx} {e1 e2 : CE} (h1 : ev C e1 ε N = .ok (.bl false) N) (h2 : ev C e2 ε N = .ok (.bl false) N) : ev C (.or e1 e2) ε N = .ok (.bl false) N := by
  rw [e_or, h1, r_bind]
  exact h2
theorem add_lst {M : Mem} {a b : List PV} (h : a.length + b.length ≤ 1000) : binop false .Add (.lst a) (.lst b) M = .ok (.lst (a ++ b)) M := by
  show WT.guard (decide (a.length + b.length ≤ sline)) _ = _
  rw [decide_eq_true (by unfold sline; omega)]
  rfl
theorem add_lref {M : Mem} {a b : List PV} {L : Nat} (hr : rd M (.ref L) = .lst b) (h : a.length + b.length ≤ 1000) : binop false .Add (.lst a) (.ref L) M = .ok (.lst (a ++ b)) M := by
  unfold binop
  rw [hr]
  show WT.guard (decide (a.length + b.length ≤ sline)) _ = _
  rw [decide_eq_true (by unfold sline; omega)]
  rfl
theorem fin_setapp {M K : Mem} {v : PV} {i : Nat} {c : Cell} (hv : v.lt M.length = true) (hc : c.lt M.length = true) (hi : i < M.length) : finO M (.rt v (M.set i c ++ K)) = .ok v (M.set i c) := by
  show Res.ok v (fin M v (M.set i c ++ K)).2 = _
  rw [← set_app hi, fin_of hv (Grow.app.set hc), set_app hi, List.take_append_of_le_length (by simp), List.take_of_length_le (by simp)]
theorem enum_get : ∀ {xs : List PV} {n : Int} {j : Nat} {p : PV}, (enumFrom n xs)[j]? = some p → ∃ x, xs[j]? = some x ∧ p = .tup [.int (n + (j : Int)), x]
  | [], _, _, _, h => by simp [enumFrom] at h
  | y :: r, n, 0, p, h => by
    have h : some (PV.tup [.int n, y]) = some p := h
    cases h
    exact ⟨y, rfl, by simp⟩
  | y :: r, n, j + 1, p, h => by
    obtain ⟨x, h1, h2⟩ := enum_get (xs := r) (n := n + 1) (j := j) h
    exact ⟨x, h1, by rw [h2]; congr 3; push_cast; omega⟩
end
end
end WT
set_option maxRecDepth 100000
set_option autoImplicit false
/-! Comprehensions whose elements draw and leave cells behind. -/
namespace WT
open PySem (Str CmpOp Operator PyData)
section
variable {own : List Nat} {t : CT} {elt : Env → Mem → Res PV} {ε : Env} {i L : Nat} {R : PV → Prop} {B d : Int}
theorem lc_left_loop (hd : 0 ≤ d) : ∀ (xs : List PV) (acc : List PV) (M K : Mem) (k : Int), M.length = L → DS M i k → k + d * (xs.length : Int) ≤ B → acc.length + xs.length ≤ sline →
    (∀ x ∈ xs, ∀ N acc K k, N.length = L → DS N i k → k + d ≤ B → ∃ ε1 v a b c K', bindT t x (wipeE ε own) (N ++ Cell.lst acc :: K) = some ε1 ∧ elt ε1 (N ++ Cell.lst acc :: K) = .ok v (N.set i (stC a b c) ++ Cell.lst acc :: K') ∧ R v ∧ DS (N.set i (stC a b c)) i (k + d)) →
    ∃ vs a b c K', lcLoop own t (fun _ M => .ok true M) elt [] ε L xs (M ++ Cell.lst acc :: K) = .ok () (M.set i (stC a b c) ++ Cell.lst (acc ++ vs) :: K') ∧ vs.length = xs.length ∧ (∀ v ∈ vs, R v) ∧ DS (M.set i (stC a b c)) i (k + d * (xs.length : Int))
  | [], acc, M, K, k, _, hD, _, _, _ => by
    obtain ⟨a, b, c, e⟩ := hD.self
    exact ⟨[], a, b, c, K, (by rw [← e, List.append_nil]; rfl), rfl, (fun v hv => by cases hv), (by rw [← e]; simpa using hD)⟩
  | x :: r, acc, M, K, k, hL, hD, hk, hl, h => by
    have hlen : ((x :: r).length : Int) = (r.length : Int) + 1 := by simp
    rw [hlen, Int.mul_add, Int.mul_one] at hk
    have hr : 0 ≤ d * (r.length : Int) := Int.mul_nonneg hd (by omega)
    obtain ⟨ε1, v, a, b, c, K1, h1, h2, h3, h4⟩ := h x List.mem_cons_self M acc K k hL hD (by omega)
    simp only [List.length_cons] at hl
    generalize hM1 : M.set i (stC a b c) = M1 at h2 h4
    have hL1 : M1.length = L := by rw [← hM1, List.length_set]; exact hL
    obtain ⟨vs, a2, b2, c2, K2, e, e2, e3, e4⟩ := lc_left_loop hd r (acc ++ [v]) M1 K1 (k + d) hL1 h4 (by omega) (by rw [List.length_append, List.length_singleton]; omega) fun y hy => h y (List.mem_cons_of_mem _ hy)
    have at_ : (M1 ++ Cell.lst acc :: K1)[L]? = some (.lst acc) := by rw [← hL1]; simp
    have set_ : ∀ q, (M1 ++ Cell.lst acc :: K1).set L q = M1 ++ q :: K1 := fun q => by rw [← hL1]; simp
    have es : M1.set i (stC a2 b2 c2) = M.set i (stC a2 b2 c2) := by rw [← hM1, List.set_set]
    refine ⟨v :: vs, a2, b2, c2, K2, ?_, by simp [e2], fun u hu => ?_, ?_⟩
    · show (match still [] (M ++ Cell.lst acc :: K), bindT t x (wipeE ε own) (M ++ Cell.lst acc :: K) with
        | true, some ε1 => (match Res.ok true (M ++ Cell.lst acc :: K) with
          | .ok true M1 => (match elt ε1 M1 with
            | .ok v M2 => (match M2[L]? with
              | some (.lst acc) => (match decide (acc.length < sline) with
                | true => lcLoop own t (fun _ M => .ok true M) elt [] ε L r (M2.set L (.lst (acc ++ [v])))
                | false => .stuck)
              | _ => .stuck)
            | _ => .stuck)
          | .ok false M1 => lcLoop own t (fun _ M => .ok true M) elt [] ε L r M1
          | _ => .stuck)
        | _, _ => .stuck) = _
      rw [h1, still_nil]
      simp only [h2, at_, decide_eq_true (show acc.length < sline by omega), set_]
      rw [e, es, List.append_assoc]
      rfl
    · rcases List.mem_cons.mp hu with rfl | hu
      · exact h3
      · exact e3 u hu
    · rw [← es, hlen, Int.mul_add, Int.mul_one, show k + (d * (r.length : Int) + d) = k + d + d * (r.length : Int) by omega]
      exact e4
end
/-- [elt for t in xs], the elements draw and leave cells behind -/
theorem e_lcL {C : Ctx} {ε : Env} {M M0 : Mem} {own : List Nat} {t : CT} {ce : CE} {it : CI} {i : Nat} {R : PV → Prop} {B d k : Int} {xs : List PV} (hit : evi C it ε M0 = .ok (xs, []) M) (hd : 0 ≤ d) (hD : DS M i k) (hk : k + d * (xs.length : Int) ≤ B) (hl : xs.length ≤ sline) (hR : ∀ v, R v → v.lt M.length = true)
    (h : ∀ x ∈ xs, ∀ N acc K k, N.length = M.length → DS N i k → k + d ≤ B → ∃ ε1 v a b c K', bindT t x (wipeE ε own) (N ++ Cell.lst acc :: K) = some ε1 ∧ ev C ce ε1 (N ++ Cell.lst acc :: K) = .ok v (N.set i (stC a b c) ++ Cell.lst acc :: K') ∧ R v ∧ DS (N.set i (stC a b c)) i (k + d)) :
    ∃ vs a b c, ev C (.lc false own ce t it []) ε M0 = .ok (.lst vs) (M.set i (stC a b c)) ∧ vs.length = xs.length ∧ (∀ v ∈ vs, R v) ∧ DS (M.set i (stC a b c)) i (k + d * (xs.length : Int)) := by
  obtain ⟨vs, a, b, c, K, e, e2, e3, e4⟩ := lc_left_loop (own := own) (t := t) (elt := fun ε M => ev C ce ε M) (ε := ε) (L := M.length) (R := R) hd xs [] M [] k rfl hD hk (by simpa using hl) h
  refine ⟨vs, a, b, c, ?_, e2, e3, e4⟩
  show (evi C it ε M0).bind _ = _
  rw [hit]
  show (lcLoop own t (fun ε M => .ok true M) (fun ε M => ev C ce ε M) [] ε M.length xs (M ++ [Cell.lst []])).bind _ = _
  rw [e]
  show lcEnd false M (M.set i (stC a b c) ++ Cell.lst ([] ++ vs) :: K) = _
  rw [List.nil_append]
  have hi := hD.lt
  have at_ : (M.set i (stC a b c) ++ Cell.lst vs :: K)[M.length]? = some (.lst vs) := by
    rw [List.getElem?_append_right (by simp)]
    simp
  have set_ : (M.set i (stC a b c) ++ Cell.lst vs :: K).set M.length .dead = (M ++ Cell.dead :: K).set i (stC a b c) := by
    rw [set_app hi, List.set_append_right _ _ (by simp)]
    simp
  unfold lcEnd
  simp only [at_, set_]
  rw [fin_of (v := .lst vs) (lts_of fun v hv => hR v (e3 v hv)) (Grow.app.set (d := stC a b c) rfl), set_app hi, List.take_append_of_le_length (by simp), List.take_of_length_le (by simp)]
end WT
set_option maxRecDepth 100000
set_option autoImplicit false
/-! A pick out of a list in a cell; a drawn name. -/
namespace WT
open PySem (Str CmpOp Operator PyData)
section
variable {G : Glo} {w n fd fp fn : Nat} {M N : Mem} {i r : Nat} {k : Int} {xs : List PV}
theorem pick_ref (hfd : G.fns[fd]? = some (.fn ⟨2, 3, drawB⟩)) (hfp : G.fns[fp]? = some (.fn ⟨2, 2, pickB fd⟩)) (hD : DS M i k) (hk : k < 2 ^ 40) (hr : M[r]? = some (.lst xs)) (hri : i ≠ r) (h0 : 0 < xs.length) (h1 : xs.length < 2 ^ 40) (hv : PV.lts M.length xs = true) :
    ∃ v a b c, WT.call G w (n + 2) fp [.ref i, .ref r] M = .ok v (M.set i (stC a b c)) ∧ v ∈ xs ∧ DS (M.set i (stC a b c)) i (k + 1) := by
  obtain ⟨d, a, b, c, e, d0, d1, hD'⟩ := draw_call (w := w) (n := n) hfd hD hk (m := (xs.length : Int)) (by omega) (by omega)
  obtain ⟨j, rfl⟩ := Int.eq_ofNat_of_zero_le d0
  have hj : j < xs.length := by omega
  have hx : xs[j]? = some xs[j] := List.getElem?_eq_getElem hj
  have hm : xs[j] ∈ xs := List.getElem_mem hj
  refine ⟨xs[j], a, b, c, call_set hfp rfl (lt_of_lts hv _ hm) rfl ?_, hm, hD'⟩
  have el : bfn .len false [.ref r] M = .ok (.int (xs.length : Int)) M := by
    show ofOpt M ((lenOf M (.ref r)).map fun n => .int n) = _
    unfold lenOf
    rw [rd_at hr]
    rfl
  have hr' : (M.set i (stC a b c))[r]? = some (.lst xs) := by rw [List.getElem?_set_ne hri]; exact hr
  show exs ⟨WT.call G w (n + 1), w, G⟩ (pickB fd) [some (.ref i), some (.ref r)] M = _
  simp only [pickB, xs_cons, x_ret, e_idx, e_loc0, e_locS, e_call, es_cons, es_nil, e_bfn, r_bind, el, e, i_cell hr' hx, r_out, o_rt]
end
end WT
set_option maxRecDepth 100000
set_option autoImplicit false
/-! A pick out of a text. -/
namespace WT
open PySem (Str CmpOp Operator PyData)
section
variable {G : Glo} {w n fd fp : Nat} {M : Mem} {i : Nat} {k : Int}
theorem i_strZ {z : Str} {j c : Nat} (h : z.cps.toList[j]? = some c) : getIx M (.str z) (.int (j : Int)) = .ok (.str (sgn c)) M := by
  have hj := (List.getElem?_eq_some_iff.mp h).1
  show ofOpt M ((L2.atI z.cps.toList (j : Int)).map fun c => .str ⟨#[c]⟩) = _
  have : L2.atI z.cps.toList (j : Int) = some c := by
    unfold L2.atI L2.ixN
    rw [if_pos (by omega), if_pos (by omega)]
    simpa using h
  rw [this]
  rfl
theorem pick_str (hfd : G.fns[fd]? = some (.fn ⟨2, 3, drawB⟩)) (hfp : G.fns[fp]? = some (.fn ⟨2, 2, pickB fd⟩)) {z : Str} (h0 : 0 < z.length) (h1 : z.length < 2 ^ 40) (hD : DS M i k) (hk : k < 2 ^ 40) : ∃ (x : Nat) (a b c : Int), WT.call G w (n + 2) fp [.ref i, .str z] M = .ok (.str (sgn x)) (M.set i (stC a b c)) ∧ x ∈ z.cps.toList ∧ DS (M.set i (stC a b c)) i (k + 1) := by
  obtain ⟨d, a, b, c, e, d0, d1, hD'⟩ := draw_call (w := w) (n := n) hfd hD hk (m := (z.length : Int)) (by omega) (by omega)
  obtain ⟨j, rfl⟩ := Int.eq_ofNat_of_zero_le d0
  have hj : j < z.cps.toList.length := by
    rw [Array.length_toList]
    have : (j : Int) < (z.length : Int) := d1
    have e : z.length = z.cps.size := rfl
    omega
  refine ⟨z.cps.toList[j], a, b, c, call_set hfp rfl rfl rfl ?_, List.getElem_mem hj, hD'⟩
  have el : ∀ N : Mem, bfn .len false [.str z] N = .ok (.int (z.length : Int)) N := fun N => rfl
  show exs ⟨WT.call G w (n + 1), w, G⟩ (pickB fd) [some (.ref i), some (.str z)] M = _
  simp only [pickB, xs_cons, x_ret, e_idx, e_loc0, e_locS, e_call, es_cons, es_nil, e_bfn, r_bind, el, e, i_strZ (List.getElem?_eq_getElem hj), r_out, o_rt]
end
end WT
set_option maxRecDepth 100000
set_option autoImplicit false
/-! Runs by what holds behind them: every step is a rule for simp, from the outside; what follows is kept as a constant, not as a function, so that nothing is looked at ahead of its time. -/
namespace WT
noncomputable section
open PySem (Str CmpOp Operator PyData)
/-- behind r: Q of its value, E of its exception -/
def Rp {α : Type} (r : Res α) (Q : α → Mem → Prop) (E : PV → Mem → Prop) : Prop := match r with
  | .ok v M => Q v M
  | .err e M => E e M
  | .stuck => False
def Wp (o : Out) (P : Out → Prop) : Prop := match o with
  | .stuck => False
  | o => P o
abbrev nev : PV → Mem → Prop := fun _ _ => False
section
variable {α β : Type} {C : Ctx} {ε : Env} {M : Mem} {r : Res α} {E : PV → Mem → Prop}
theorem Rp.of {Q : α → Mem → Prop} {v : α} {M : Mem} (h : r = .ok v M) (hq : Q v M) : Rp r Q E := by rw [h]; exact hq
theorem Rp.use {Q Q' : α → Mem → Prop} (h : Rp r Q nev) (hq : ∀ v M, Q v M → Q' v M) : Rp r Q' E := by
  cases r with
  | ok v M => exact hq v M h
  | err e M => exact h.elim
  | stuck => exact h.elim
theorem Rp.get {Q : α → Mem → Prop} (h : Rp r Q nev) : ∃ v M, r = .ok v M ∧ Q v M := by
  cases r with
  | ok v M => exact ⟨v, M, rfl, h⟩
  | err e M => exact h.elim
  | stuck => exact h.elim
theorem rp_bind {Q : β → Mem → Prop} (r : Res α) (k : α → Mem → Res β) : Rp (r.bind k) Q E ↔ Rp r (fun v M => Rp (k v M) Q E) E := by cases r <;> exact Iff.rfl
@[simp ↓] theorem rp_ok {Q : α → Mem → Prop} {v : α} : Rp (.ok v M) Q E ↔ Q v M := Iff.rfl
@[simp ↓] theorem rp_err {Q : α → Mem → Prop} {e : PV} : Rp (.err e M : Res α) Q E ↔ E e M := Iff.rfl
end
section
variable {C : Ctx} {ε : Env} {M : Mem} {Q : PV → Mem → Prop} {QS : List PV → Mem → Prop} {E : PV → Mem → Prop} {K : Bool → Mem → Prop} {v x y : PV} {vs xs ys : List PV}
theorem rp_guard {c : Bool} {r : Res PV} : Rp (guard c r) Q E ↔ c = true ∧ Rp r Q E := by
  cases c
  · exact ⟨fun h => h.elim, fun h => by cases h.1⟩
  · exact ⟨fun h => ⟨rfl, h⟩, fun h => h.2⟩
/-! ### expressions -/
@[simp ↓] theorem rp_lit : Rp (ev C (.lit v) ε M) Q E ↔ Q v M := Iff.rfl
@[simp ↓] theorem rp_glo : Rp (ev C (.glo v) ε M) Q E ↔ Q v M := Iff.rfl
@[simp ↓] theorem rp_loc0 : Rp (ev C (.loc 0) (some v :: ε) M) Q E ↔ Q v M := Iff.rfl
@[simp ↓] theorem rp_locS {i : Nat} {o : Option PV} : Rp (ev C (.loc (i + 1)) (o :: ε) M) Q E ↔ Rp (ev C (.loc i) ε M) Q E := Iff.rfl
theorem rp_loc {i : Nat} (h : ε[i]? = some (some v)) : Rp (ev C (.loc i) ε M) Q E ↔ Q v M := by rw [e_loc h]; exact Iff.rfl
@[simp ↓] theorem rp_nil : Rp (evs C [] ε M) QS E ↔ QS [] M := Iff.rfl
def Kcons2 (v : PV) (Q : List PV → Mem → Prop) (vs : List PV) (M : Mem) : Prop := Q (v :: vs) M
def Kcons1 (C : Ctx) (r : List CE) (ε : Env) (Q : List PV → Mem → Prop) (E : PV → Mem → Prop) (v : PV) (M : Mem) : Prop := Rp (evs C r ε M) (Kcons2 v Q) E
@[simp ↓] theorem kcons2 : Kcons2 v QS vs M ↔ QS (v :: vs) M := Iff.rfl
@[simp ↓] theorem kcons1 {r : List CE} : Kcons1 C r ε QS E v M ↔ Rp (evs C r ε M) (Kcons2 v QS) E := Iff.rfl
@[simp ↓] theorem rp_cons {e : CE} {r : List CE} : Rp (evs C (e :: r) ε M) QS E ↔ Rp (ev C e ε M) (Kcons1 C r ε QS E) E := by
  rw [es_cons, rp_bind]
  unfold Kcons1
  simp only [rp_bind]
  exact Iff.rfl
def Ktup (Q : PV → Mem → Prop) (vs : List PV) (M : Mem) : Prop := Q (.tup vs) M
@[simp ↓] theorem ktup : Ktup Q vs M ↔ Q (.tup vs) M := Iff.rfl
@[simp ↓] theorem rp_tup {es : List CE} : Rp (ev C (.tup es) ε M) Q E ↔ Rp (evs C es ε M) (Ktup Q) E := by rw [e_tup, rp_bind]; exact Iff.rfl
def Klst (Q : PV → Mem → Prop) (vs : List PV) (M : Mem) : Prop := Q (.lst vs) M
@[simp ↓] theorem klst : Klst Q vs M ↔ Q (.lst vs) M := Iff.rfl
@[simp ↓] theorem rp_lst {es : List CE} : Rp (ev C (.lst false es) ε M) Q E ↔ Rp (evs C es ε M) (Klst Q) E := by rw [e_lstT, rp_bind]; exact Iff.rfl
def KlstC (Q : PV → Mem → Prop) (vs : List PV) (M : Mem) : Prop := Q (.ref M.length) (M ++ [.lst vs])
@[simp ↓] theorem klstC : KlstC Q vs M ↔ Q (.ref M.length) (M ++ [.lst vs]) := Iff.rfl
@[simp ↓] theorem rp_lstC {es : List CE} : Rp (ev C (.lst true es) ε M) Q E ↔ Rp (evs C es ε M) (KlstC Q) E := by rw [e_lstC, rp_bind]; exact Iff.rfl
@[simp ↓] theorem rp_dic0 : Rp (ev C (.dic false [] []) ε M) Q E ↔ Q (.dic []) M := Iff.rfl
def Kbin2 (op : Operator) (m : Bool) (x : PV) (Q E : PV → Mem → Prop) (y : PV) (M : Mem) : Prop := Rp (binop m op x y M) Q E
def Kbin1 (C : Ctx) (op : Operator) (m : Bool) (b : CE) (ε : Env) (Q E : PV → Mem → Prop) (x : PV) (M : Mem) : Prop := Rp (ev C b ε M) (Kbin2 op m x Q E) E
@[simp ↓] theorem kbin2 {op : Operator} {m : Bool} : Kbin2 op m x Q E y M ↔ Rp (binop m op x y M) Q E := Iff.rfl
@[simp ↓] theorem kbin1 {op : Operator} {m : Bool} {b : CE} : Kbin1 C op m b ε Q E x M ↔ Rp (ev C b ε M) (Kbin2 op m x Q E) E := Iff.rfl
@[simp ↓] theorem rp_bin {op : Operator} {m : Bool} {a b : CE} : Rp (ev C (.bin op m a b) ε M) Q E ↔ Rp (ev C a ε M) (Kbin1 C op m b ε Q E) E := by
  rw [e_bin, rp_bind]
  unfold Kbin1
  simp only [rp_bind]
  exact Iff.rfl
@[simp ↓] theorem rp_addI {m : Bool} {i j : Int} : Rp (binop m .Add (.int i) (.int j) M) Q E ↔ Q (.int (i + j)) M := Iff.rfl
@[simp ↓] theorem rp_subI {m : Bool} {i j : Int} : Rp (binop m .Sub (.int i) (.int j) M) Q E ↔ Q (.int (i - j)) M := Iff.rfl
@[simp ↓] theorem rp_mulI {m : Bool} {i j : Int} : Rp (binop m .Mult (.int i) (.int j) M) Q E ↔ mulOk i j = true ∧ Q (.int (i * j)) M := rp_guard
@[simp ↓] theorem rp_modI {m : Bool} {i j : Int} : Rp (binop m .Mod (.int i) (.int j) M) Q E ↔ 0 < j ∧ Q (.int (i % j)) M := rp_guard.trans (by rw [decide_eq_true_eq]; exact Iff.rfl)
@[simp ↓] theorem rp_divI {m : Bool} {i j : Int} : Rp (binop m .FloorDiv (.int i) (.int j) M) Q E ↔ divOk j = true ∧ Q (.int (i / j)) M := rp_guard
@[simp ↓] theorem rp_addS {m : Bool} {a b : Str} : Rp (binop m .Add (.str a) (.str b) M) Q E ↔ a.length + b.length ≤ 16777216 ∧ Q (.str (a ++ b)) M := rp_guard.trans (by rw [decide_eq_true_eq]; exact Iff.rfl)
@[simp ↓] theorem rp_addL : Rp (binop false .Add (.lst xs) (.lst ys) M) Q E ↔ xs.length + ys.length ≤ 16777216 ∧ Q (.lst (xs ++ ys)) M := rp_guard.trans (by rw [decide_eq_true_eq]; exact Iff.rfl)
@[simp ↓] theorem rp_addT {m : Bool} : Rp (binop m .Add (.tup xs) (.tup ys) M) Q E ↔ xs.length + ys.length ≤ 16777216 ∧ Q (.tup (xs ++ ys)) M := rp_guard.trans (by rw [decide_eq_true_eq]; exact Iff.rfl)
@[simp ↓] theorem rp_mulT {m : Bool} {k : Int} : Rp (binop m .Mult (.tup xs) (.int k) M) Q E ↔ (0 ≤ k ∧ k ≤ 1000 ∧ xs.length ≤ 1000 ∧ xs ≠ []) ∧ Q (.tup (repP k xs)) M := by
  refine rp_guard.trans ?_
  rw [Bool.and_eq_true, Bool.and_eq_true, Bool.and_eq_true, decide_eq_true_eq, decide_eq_true_eq, decide_eq_true_eq]
  cases xs with
  | nil => exact ⟨fun h => (by cases h.1.2), fun h => absurd rfl h.1.2.2.2⟩
  | cons a r => exact ⟨fun h => ⟨⟨h.1.1.1.1, h.1.1.1.2, h.1.1.2, by simp⟩, h.2⟩, fun h => ⟨⟨⟨⟨h.1.1, h.1.2.1⟩, h.1.2.2.1⟩, rfl⟩, h.2⟩⟩
@[simp ↓] theorem rp_mulL {k : Int} : Rp (binop false .Mult (.lst xs) (.int k) M) Q E ↔ (-1000000 ≤ k ∧ k ≤ 1000000 ∧ xs.length * k.toNat ≤ 16777216) ∧ Q (.lst (repP k xs)) M := by
  refine rp_guard.trans ?_
  rw [Bool.and_eq_true, Bool.and_eq_true, decide_eq_true_eq, decide_eq_true_eq, decide_eq_true_eq]
  exact ⟨fun h => ⟨⟨h.1.1.1, h.1.1.2, h.1.2⟩, h.2⟩, fun h => ⟨⟨⟨h.1.1, h.1.2.1⟩, h.1.2.2⟩, h.2⟩⟩
def Kneg (Q E : PV → Mem → Prop) (x : PV) (M : Mem) : Prop := match x with
  | .int i => Q (.int (-i)) M
  | _ => False
@[simp ↓] theorem kneg {i : Int} : Kneg Q E (.int i) M ↔ Q (.int (-i)) M := Iff.rfl
@[simp ↓] theorem rp_neg {a : CE} : Rp (ev C (.neg a) ε M) Q E ↔ Rp (ev C a ε M) (Kneg Q E) E := by
  show Rp ((ev C a ε M).bind _) Q E ↔ _
  rw [rp_bind]
  generalize ev C a ε M = r
  cases r with
  | ok v N => cases v <;> exact Iff.rfl
  | err e N => exact Iff.rfl
  | stuck => exact Iff.rfl
def Kcmp2 (C : Ctx) (op : CmpOp) (x : PV) (Q E : PV → Mem → Prop) (y : PV) (M : Mem) : Prop := Rp (cmpop C op x y M) Q E
def Kcmp1 (C : Ctx) (op : CmpOp) (b : CE) (ε : Env) (Q E : PV → Mem → Prop) (x : PV) (M : Mem) : Prop := Rp (ev C b ε M) (Kcmp2 C op x Q E) E
@[simp ↓] theorem kcmp2 {op : CmpOp} : Kcmp2 C op x Q E y M ↔ Rp (cmpop C op x y M) Q E := Iff.rfl
@[simp ↓] theorem kcmp1 {op : CmpOp} {b : CE} : Kcmp1 C op b ε Q E x M ↔ Rp (ev C b ε M) (Kcmp2 C op x Q E) E := Iff.rfl
@[simp ↓] theorem rp_cmp {op : CmpOp} {a b : CE} : Rp (ev C (.cmp op a b) ε M) Q E ↔ Rp (ev C a ε M) (Kcmp1 C op b ε Q E) E := by
  rw [e_cmp, rp_bind]
  unfold Kcmp1
  simp only [rp_bind]
  exact Iff.rfl
@[simp ↓] theorem rp_ltI {i j : Int} : Rp (cmpop C .Lt (.int i) (.int j) M) Q E ↔ Q (.bl (decide (i < j))) M := Iff.rfl
@[simp ↓] theorem rp_leI {i j : Int} : Rp (cmpop C .LtE (.int i) (.int j) M) Q E ↔ Q (.bl (decide (i ≤ j))) M := Iff.rfl
@[simp ↓] theorem rp_gtI {i j : Int} : Rp (cmpop C .Gt (.int i) (.int j) M) Q E ↔ Q (.bl (decide (j < i))) M := Iff.rfl
@[simp ↓] theorem rp_geI {i j : Int} : Rp (cmpop C .GtE (.int i) (.int j) M) Q E ↔ Q (.bl (decide (j ≤ i))) M := Iff.rfl
@[simp ↓] theorem rp_eqI {i j : Int} : Rp (cmpop C .Eq (.int i) (.int j) M) Q E ↔ Q (.bl (i == j)) M := Iff.rfl
@[simp ↓] theorem rp_neI {i j : Int} : Rp (cmpop C .NotEq (.int i) (.int j) M) Q E ↔ Q (.bl (!(i == j))) M := Iff.rfl
@[simp ↓] theorem rp_eqS {i j : Str} : Rp (cmpop C .Eq (.str i) (.str j) M) Q E ↔ Q (.bl (i == j)) M := Iff.rfl
@[simp ↓] theorem rp_neS {i j : Str} : Rp (cmpop C .NotEq (.str i) (.str j) M) Q E ↔ Q (.bl (!(i == j))) M := Iff.rfl
theorem rp_neD {b : Bool} (h1 : ∀ c fs, rd M x ≠ .ins c fs) (h2 : ∀ c fs, rd M y ≠ .ins c fs) (h : eqData M x y = some b) : Rp (cmpop C .NotEq x y M) Q E ↔ Q (.bl (!b)) M := by
  have e : cmpop C .NotEq x y M = ofOpt M ((eqData M x y).map fun b => .bl (!b)) := by
    show cmpNe C x y M = _
    unfold cmpNe
    split
    · rename_i c fs _ hx; exact absurd hx (h1 _ _)
    · rename_i hy _; exact absurd hy (h2 _ _)
    · rfl
  rw [e, h]
  exact Iff.rfl
theorem eqData_dic {ka : List (PV × PV)} (h : rd M x = .dic ka) : eqData M x y = none := by
  have hd : ∀ d, deep M x = some d → PySem.SeqAt.shaped d = false := fun d e => by
    have : ∃ l, d = .dict l := by
      cases x with
      | dic ys =>
        obtain ⟨l, _, rfl⟩ := Option.map_eq_some_iff.mp (show (deepWd _ ys).map PyData.dict = some d from e)
        exact ⟨l, rfl⟩
      | ref i =>
        have h : (match M[i]? with
          | some (.lst xs) => PV.lst xs
          | some (.dic kvs) => .dic kvs
          | some (.ins c fs) => .ins c fs
          | _ => .ref i) = .dic ka := h
        have e : cellD _ M[i]? = some d := e
        cases hc : M[i]? with
        | none => rw [hc] at h; cases h
        | some c =>
          rw [hc] at h e
          cases c with
          | dic ys =>
            obtain ⟨l, _, rfl⟩ := Option.map_eq_some_iff.mp (show (deepWd _ ys).map PyData.dict = some d from e)
            exact ⟨l, rfl⟩
          | _ => cases h
      | _ => cases h
    obtain ⟨l, rfl⟩ := this
    rfl
  have hn : ((deep M x).bind fun d => (deep M y).bind fun e => if PySem.SeqAt.shaped d && PySem.SeqAt.shaped e then some (PyData.eqv d e) else none) = none := by
    cases e : deep M x with
    | none => rfl
    | some d =>
      show ((deep M y).bind fun e => if PySem.SeqAt.shaped d && PySem.SeqAt.shaped e then some (PyData.eqv d e) else none) = none
      rw [hd d e]
      cases deep M y <;> rfl
  unfold eqData
  rw [h]
  cases rd M y <;> exact hn
theorem rp_eqD {b : Bool} (h1 : ∀ c fs, rd M x ≠ .ins c fs) (h2 : ∀ c fs, rd M y ≠ .ins c fs) (h : eqData M x y = some b) : Rp (cmpop C .Eq x y M) Q E ↔ Q (.bl b) M := by
  have e : cmpop C .Eq x y M = ofOpt M ((eqData M x y).map .bl) := by
    show cmpEq C x y M = _
    unfold cmpEq
    split
    · rename_i c fs _ hx; exact absurd hx (h1 _ _)
    · rename_i hy _; exact absurd hy (h2 _ _)
    · rename_i hx hy
      rw [eqData_dic hx] at h
      cases h
    · rfl
  rw [e, h]
  exact Iff.rfl
/-! ### tests -/
def Kt (K : Bool → Mem → Prop) (v : PV) (M : Mem) : Prop := match truthy M v with
  | some b => K b M
  | none => False
@[simp ↓] theorem kt_bl {b : Bool} : Kt K (.bl b) M ↔ K b M := Iff.rfl
@[simp ↓] theorem kt_int {i : Int} : Kt K (.int i) M ↔ K (i != 0) M := Iff.rfl
@[simp ↓] theorem kt_non : Kt K .non M ↔ K false M := Iff.rfl
@[simp ↓] theorem kt_lst : Kt K (.lst xs) M ↔ K (!xs.isEmpty) M := Iff.rfl
@[simp ↓] theorem kt_tup : Kt K (.tup xs) M ↔ K (!xs.isEmpty) M := Iff.rfl
theorem rp_test {r : Res PV} : Rp r.test K E ↔ Rp r (Kt K) E := by
  cases r with
  | ok v N =>
    show Rp (match truthy N v with
      | some b => Res.ok b N
      | none => .stuck) K E ↔ (match truthy N v with
      | some b => K b N
      | none => False)
    cases truthy N v <;> exact Iff.rfl
  | err e N => exact Iff.rfl
  | stuck => exact Iff.rfl
def Kif (C : Ctx) (a b : CE) (ε : Env) (Q E : PV → Mem → Prop) (t : Bool) (M : Mem) : Prop := match t with
  | true => Rp (ev C a ε M) Q E
  | false => Rp (ev C b ε M) Q E
@[simp ↓] theorem kif_t {a b : CE} : Kif C a b ε Q E true M ↔ Rp (ev C a ε M) Q E := Iff.rfl
@[simp ↓] theorem kif_f {a b : CE} : Kif C a b ε Q E false M ↔ Rp (ev C b ε M) Q E := Iff.rfl
@[simp ↓] theorem rp_ife {c a b : CE} : Rp (ev C (.ife c a b) ε M) Q E ↔ Rp (ev C c ε M) (Kt (Kif C a b ε Q E)) E := by
  rw [e_ife, rp_bind, rp_test]
  refine iff_of_eq (congrArg (fun K => Rp (ev C c ε M) (Kt K) E) (funext fun v => funext fun M => ?_))
  cases v <;> rfl
def Knot (Q : PV → Mem → Prop) (b : Bool) (M : Mem) : Prop := Q (.bl (!b)) M
@[simp ↓] theorem knot {b : Bool} : Knot Q b M ↔ Q (.bl (!b)) M := Iff.rfl
@[simp ↓] theorem rp_not {a : CE} : Rp (ev C (.not a) ε M) Q E ↔ Rp (ev C a ε M) (Kt (Knot Q)) E := by
  rw [e_not, rp_bind, rp_test]
  exact Iff.rfl
def Kand (C : Ctx) (b : CE) (ε : Env) (Q E : PV → Mem → Prop) (x : PV) (M : Mem) : Prop := match truthy M x with
  | some true => Rp (ev C b ε M) Q E
  | some false => Q x M
  | none => False
@[simp ↓] theorem kand_t {b : CE} : Kand C b ε Q E (.bl true) M ↔ Rp (ev C b ε M) Q E := Iff.rfl
@[simp ↓] theorem kand_f {b : CE} : Kand C b ε Q E (.bl false) M ↔ Q (.bl false) M := Iff.rfl
@[simp ↓] theorem rp_and {a b : CE} : Rp (ev C (.and a b) ε M) Q E ↔ Rp (ev C a ε M) (Kand C b ε Q E) E := by
  rw [e_and, rp_bind]
  refine iff_of_eq (congrArg (fun K => Rp (ev C a ε M) K E) (funext fun x => funext fun M => ?_))
  unfold Kand
  cases truthy M x with
  | none => rfl
  | some t => cases t <;> rfl
def Kor (C : Ctx) (b : CE) (ε : Env) (Q E : PV → Mem → Prop) (x : PV) (M : Mem) : Prop := match truthy M x with
  | some false => Rp (ev C b ε M) Q E
  | some true => Q x M
  | none => False
@[simp ↓] theorem kor_f {b : CE} : Kor C b ε Q E (.bl false) M ↔ Rp (ev C b ε M) Q E := Iff.rfl
@[simp ↓] theorem kor_t {b : CE} : Kor C b ε Q E (.bl true) M ↔ Q (.bl true) M := Iff.rfl
@[simp ↓] theorem rp_or {a b : CE} : Rp (ev C (.or a b) ε M) Q E ↔ Rp (ev C a ε M) (Kor C b ε Q E) E := by
  rw [e_or, rp_bind]
  refine iff_of_eq (congrArg (fun K => Rp (ev C a ε M) K E) (funext fun x => funext fun M => ?_))
  unfold Kor
  cases truthy M x with
  | none => rfl
  | some t => cases t <;> rfl
/-! ### items, slices -/
def Kidx2 (a : PV) (Q E : PV → Mem → Prop) (i : PV) (M : Mem) : Prop := Rp (getIx M a i) Q E
def Kidx1 (C : Ctx) (i : CE) (ε : Env) (Q E : PV → Mem → Prop) (a : PV) (M : Mem) : Prop := Rp (ev C i ε M) (Kidx2 a Q E) E
@[simp ↓] theorem kidx2 : Kidx2 x Q E y M ↔ Rp (getIx M x y) Q E := Iff.rfl
@[simp ↓] theorem kidx1 {i : CE} : Kidx1 C i ε Q E x M ↔ Rp (ev C i ε M) (Kidx2 x Q E) E := Iff.rfl
@[simp ↓] theorem rp_idx {a i : CE} : Rp (ev C (.idx a i) ε M) Q E ↔ Rp (ev C a ε M) (Kidx1 C i ε Q E) E := by
  rw [e_idx, rp_bind]
  unfold Kidx1
  simp only [rp_bind]
  exact Iff.rfl
def Kslc3 (m : Bool) (x : PV) (l : Option Int) (Q E : PV → Mem → Prop) (h : PV) (M : Mem) : Prop := Rp (withB h fun h => slice m x l h M) Q E
def Kslc2 (C : Ctx) (m : Bool) (x : PV) (hi : CE) (ε : Env) (Q E : PV → Mem → Prop) (l : PV) (M : Mem) : Prop := match bnd l with
  | some l => Rp (ev C hi ε M) (Kslc3 m x l Q E) E
  | none => False
def Kslc1 (C : Ctx) (m : Bool) (lo hi : CE) (ε : Env) (Q E : PV → Mem → Prop) (x : PV) (M : Mem) : Prop := Rp (ev C lo ε M) (Kslc2 C m x hi ε Q E) E
@[simp ↓] theorem kslc3n {m : Bool} {l : Option Int} : Kslc3 m x l Q E .non M ↔ Rp (slice m x l none M) Q E := Iff.rfl
@[simp ↓] theorem kslc3i {m : Bool} {l : Option Int} {j : Int} : Kslc3 m x l Q E (.int j) M ↔ Rp (slice m x l (some j) M) Q E := Iff.rfl
@[simp ↓] theorem kslc2n {m : Bool} {hi : CE} : Kslc2 C m x hi ε Q E .non M ↔ Rp (ev C hi ε M) (Kslc3 m x none Q E) E := Iff.rfl
@[simp ↓] theorem kslc2i {m : Bool} {hi : CE} {j : Int} : Kslc2 C m x hi ε Q E (.int j) M ↔ Rp (ev C hi ε M) (Kslc3 m x (some j) Q E) E := Iff.rfl
@[simp ↓] theorem kslc1 {m : Bool} {lo hi : CE} : Kslc1 C m lo hi ε Q E x M ↔ Rp (ev C lo ε M) (Kslc2 C m x hi ε Q E) E := Iff.rfl
@[simp ↓] theorem rp_slc {m : Bool} {a lo hi : CE} : Rp (ev C (.slc m a lo hi) ε M) Q E ↔ Rp (ev C a ε M) (Kslc1 C m lo hi ε Q E) E := by
  rw [e_slc, rp_bind]
  refine iff_of_eq (congrArg (fun K => Rp (ev C a ε M) K E) (funext fun x => funext fun M => ?_))
  unfold Kslc1
  rw [rp_bind]
  refine congrArg (fun K => Rp (ev C lo ε M) K E) (funext fun l => funext fun N => ?_)
  unfold Kslc2 withB
  cases bnd l with
  | none => rfl
  | some l =>
    show Rp ((ev C hi ε N).bind _) Q E = _
    rw [rp_bind]
    rfl
@[simp ↓] theorem rp_slL {l h : Option Int} : Rp (slice false (.lst xs) l h M) Q E ↔ Q (.lst (cut xs l h)) M := Iff.rfl
@[simp ↓] theorem rp_slT {m : Bool} {l h : Option Int} : Rp (slice m (.tup xs) l h M) Q E ↔ Q (.tup (cut xs l h)) M := Iff.rfl
def Krev (m : Bool) (Q E : PV → Mem → Prop) (x : PV) (M : Mem) : Prop := Rp (revOf m x M) Q E
@[simp ↓] theorem krevL : Krev false Q E (.lst xs) M ↔ Q (.lst xs.reverse) M := Iff.rfl
@[simp ↓] theorem krevT {m : Bool} : Krev m Q E (.tup xs) M ↔ Q (.tup xs.reverse) M := Iff.rfl
@[simp ↓] theorem rp_rev {m : Bool} {a : CE} : Rp (ev C (.rev m a) ε M) Q E ↔ Rp (ev C a ε M) (Krev m Q E) E := by
  show Rp ((ev C a ε M).bind _) Q E ↔ _
  rw [rp_bind]
  exact Iff.rfl
/-! ### calls -/
def Kcall (C : Ctx) (f : Nat) (Q E : PV → Mem → Prop) (vs : List PV) (M : Mem) : Prop := Rp (C.call f vs M) Q E
@[simp ↓] theorem kcall {c : Nat → List PV → Mem → Res PV} {w f : Nat} {G : Glo} : Kcall ⟨c, w, G⟩ f Q E vs M ↔ Rp (c f vs M) Q E := Iff.rfl
@[simp ↓] theorem rp_call {f : Nat} {as : List CE} : Rp (ev C (.call f as) ε M) Q E ↔ Rp (evs C as ε M) (Kcall C f Q E) E := by rw [e_call, rp_bind]; exact Iff.rfl
def Kbfn (b : BF) (m : Bool) (Q E : PV → Mem → Prop) (vs : List PV) (M : Mem) : Prop := Rp (bfn b m vs M) Q E
@[simp ↓] theorem kbfn {b : BF} {m : Bool} : Kbfn b m Q E vs M ↔ Rp (bfn b m vs M) Q E := Iff.rfl
@[simp ↓] theorem rp_bfn {b : BF} {m : Bool} {as : List CE} : Rp (ev C (.bfn b m as) ε M) Q E ↔ Rp (evs C as ε M) (Kbfn b m Q E) E := by rw [e_bfn, rp_bind]; exact Iff.rfl
@[simp ↓] theorem rp_lenL {m : Bool} : Rp (bfn .len m [.lst xs] M) Q E ↔ Q (.int (xs.length : Int)) M := Iff.rfl
@[simp ↓] theorem rp_lenT {m : Bool} : Rp (bfn .len m [.tup xs] M) Q E ↔ Q (.int (xs.length : Int)) M := Iff.rfl
@[simp ↓] theorem rp_lenS {m : Bool} {z : Str} : Rp (bfn .len m [.str z] M) Q E ↔ Q (.int (z.length : Int)) M := Iff.rfl
@[simp ↓] theorem rp_tupOf {m : Bool} : Rp (bfn .tupleOf m [.lst xs] M) Q E ↔ Q (.tup xs) M := Iff.rfl
@[simp ↓] theorem rp_tupOfT {m : Bool} : Rp (bfn .tupleOf m [.tup xs] M) Q E ↔ Q (.tup xs) M := Iff.rfl
@[simp ↓] theorem rp_lstOf : Rp (bfn .listOf false [.lst xs] M) Q E ↔ Q (.lst xs) M := Iff.rfl
@[simp ↓] theorem rp_lstOfT : Rp (bfn .listOf false [.tup xs] M) Q E ↔ Q (.lst xs) M := Iff.rfl
@[simp ↓] theorem rp_intOf {m : Bool} {i : Int} : Rp (bfn .intOf m [.int i] M) Q E ↔ Q (.int i) M := Iff.rfl
@[simp ↓] theorem rp_maxOf {m : Bool} {i j : Int} : Rp (bfn .maxOf m [.int i, .int j] M) Q E ↔ Q (.int (if j > i then j else i)) M := Iff.rfl
@[simp ↓] theorem rp_minOf {m : Bool} {i j : Int} : Rp (bfn .minOf m [.int i, .int j] M) Q E ↔ Q (.int (if j < i then j else i)) M := Iff.rfl
/-! ### iterables -/
def Kof (Q : Items → Mem → Prop) (v : PV) (M : Mem) : Prop := match srcOf M v with
  | some it => Q it M
  | none => False
@[simp ↓] theorem kofL {Q : Items → Mem → Prop} : Kof Q (.lst xs) M ↔ Q (xs, []) M := Iff.rfl
@[simp ↓] theorem kofT {Q : Items → Mem → Prop} : Kof Q (.tup xs) M ↔ Q (xs, []) M := Iff.rfl
@[simp ↓] theorem kofS {Q : Items → Mem → Prop} {z : Str} : Kof Q (.str z) M ↔ Q (chars z, []) M := Iff.rfl
@[simp ↓] theorem rp_of {Q : Items → Mem → Prop} {e : CE} : Rp (evi C (.of e) ε M) Q E ↔ Rp (ev C e ε M) (Kof Q) E := by
  show Rp ((ev C e ε M).bind _) Q E ↔ _
  rw [rp_bind]
  generalize ev C e ε M = r
  cases r with
  | ok v N =>
    show Rp (match srcOf N v with
      | some it => Res.ok it N
      | none => .stuck) Q E ↔ (match srcOf N v with
      | some it => Q it N
      | none => False)
    cases srcOf N v <;> exact Iff.rfl
  | err e N => exact Iff.rfl
  | stuck => exact Iff.rfl
def nums (n : Nat) : List PV := (List.range n).map fun (j : Nat) => PV.int (j : Int)
@[simp] theorem nums_len {n : Nat} : (nums n).length = n := by unfold nums; simp
theorem nums_get {n j : Nat} {x : PV} (h : (nums n)[j]? = some x) : j < n ∧ x = .int (j : Int) := by
  unfold nums at h
  rw [List.getElem?_map] at h
  obtain ⟨p, hp, rfl⟩ := Option.map_eq_some_iff.mp h
  obtain ⟨h1, h2⟩ := List.getElem?_eq_some_iff.mp hp
  rw [List.length_range] at h1
  have : p = j := by simpa using h2.symm
  rw [this]
  exact ⟨h1, rfl⟩
theorem nums_mem {n : Nat} {x : PV} (h : x ∈ nums n) : ∃ j : Nat, j < n ∧ x = .int (j : Int) := by
  obtain ⟨j, hj⟩ := List.mem_iff_getElem?.mp h
  exact ⟨j, nums_get hj⟩
def Krng (Q : Items → Mem → Prop) (v : PV) (M : Mem) : Prop := match v with
  | .int n => (-4611686018427387904 ≤ n ∧ n < 4611686018427387904) ∧ Q (nums n.toNat, []) M
  | _ => False
@[simp ↓] theorem krng {Q : Items → Mem → Prop} {n : Int} : Krng Q (.int n) M ↔ (-4611686018427387904 ≤ n ∧ n < 4611686018427387904) ∧ Q (nums n.toNat, []) M := Iff.rfl
@[simp ↓] theorem rp_rng1 {Q : Items → Mem → Prop} {a : CE} : Rp (evi C (.rng1 a) ε M) Q E ↔ Rp (ev C a ε M) (Krng Q) E := by
  rw [evi_r1, rp_bind]
  generalize ev C a ε M = r
  cases r with
  | ok v N =>
    cases v with
    | int n =>
      show Rp (if decide (-4611686018427387904 ≤ n) && decide (n < 4611686018427387904) then Res.ok ((List.range n.toNat).map fun (i : Nat) => PV.int (i : Int), []) N else .stuck) Q E ↔ (-4611686018427387904 ≤ n ∧ n < 4611686018427387904) ∧ Q (nums n.toNat, []) N
      by_cases h : -4611686018427387904 ≤ n ∧ n < 4611686018427387904
      · rw [if_pos (by rw [Bool.and_eq_true, decide_eq_true_eq, decide_eq_true_eq]; exact h)]
        exact ⟨fun q => ⟨h, q⟩, fun q => q.2⟩
      · rw [if_neg (by rw [Bool.and_eq_true, decide_eq_true_eq, decide_eq_true_eq]; exact h)]
        exact ⟨fun q => q.elim, fun q => absurd q.1 h⟩
    | _ => exact Iff.rfl
  | err e N => exact Iff.rfl
  | stuck => exact Iff.rfl
end
/-! ### statements -/
section
variable {C : Ctx} {ε : Env} {M : Mem} {P : Out → Prop} {r : List CS} {v : PV}
@[simp ↓] theorem wp_nil : Wp (exs C [] ε M) P ↔ P (.nx ε M) := Iff.rfl
def Ker (ε : Env) (P : Out → Prop) (e : PV) (M : Mem) : Prop := P (.er e ε M)
@[simp ↓] theorem ker {e : PV} : Ker ε P e M ↔ P (.er e ε M) := Iff.rfl
def Kasg (C : Ctx) (i : Nat) (r : List CS) (ε : Env) (P : Out → Prop) (v : PV) (M : Mem) : Prop := Wp (exs C r (ε.set i (some v)) M) P
@[simp ↓] theorem kasg {i : Nat} : Kasg C i r ε P v M ↔ Wp (exs C r (ε.set i (some v)) M) P := Iff.rfl
@[simp ↓] theorem wp_asg {i : Nat} {e : CE} : Wp (exs C (.asg (.nm i) e :: r) ε M) P ↔ Rp (ev C e ε M) (Kasg C i r ε P) (Ker ε P) := by
  rw [xs_cons, x_asgN]
  generalize ev C e ε M = q
  cases q <;> exact Iff.rfl
def KasgT (C : Ctx) (ts : List CT) (r : List CS) (ε : Env) (P : Out → Prop) (v : PV) (M : Mem) : Prop := match bindT (.tup ts) v ε M with
  | some ε1 => Wp (exs C r ε1 M) P
  | none => False
theorem kasgT {ts : List CT} {ε1 : Env} (h : bindT (.tup ts) v ε M = some ε1) : KasgT C ts r ε P v M ↔ Wp (exs C r ε1 M) P := by
  unfold KasgT
  rw [h]
@[simp ↓] theorem kasgT2 {i j : Nat} {x y : PV} : KasgT C [.nm i, .nm j] r ε P (.tup [x, y]) M ↔ Wp (exs C r ((ε.set i (some x)).set j (some y)) M) P := Iff.rfl
@[simp ↓] theorem kasgT3 {i j k : Nat} {x y z : PV} : KasgT C [.nm i, .nm j, .nm k] r ε P (.tup [x, y, z]) M ↔ Wp (exs C r (((ε.set i (some x)).set j (some y)).set k (some z)) M) P := Iff.rfl
@[simp ↓] theorem wp_asgT {ts : List CT} {e : CE} : Wp (exs C (.asg (.tup ts) e :: r) ε M) P ↔ Rp (ev C e ε M) (KasgT C ts r ε P) (Ker ε P) := by
  rw [xs_cons, x_asg]
  generalize ev C e ε M = q
  cases q with
  | ok v N =>
    show Wp ((match bindT (.tup ts) v ε N with
      | some ε1 => Out.nx ε1 N
      | none => .stuck).seq _) P ↔ (match bindT (.tup ts) v ε N with
      | some ε1 => Wp (exs C r ε1 N) P
      | none => False)
    cases bindT (.tup ts) v ε N <;> exact Iff.rfl
  | err e N => exact Iff.rfl
  | stuck => exact Iff.rfl
def Kret (P : Out → Prop) (v : PV) (M : Mem) : Prop := P (.rt v M)
@[simp ↓] theorem kret : Kret P v M ↔ P (.rt v M) := Iff.rfl
@[simp ↓] theorem wp_ret {e : CE} : Wp (exs C (.ret e :: r) ε M) P ↔ Rp (ev C e ε M) (Kret P) (Ker ε P) := by
  rw [xs_cons, x_ret]
  generalize ev C e ε M = q
  cases q <;> exact Iff.rfl
@[simp ↓] theorem wp_retN : Wp (exs C (.retN :: r) ε M) P ↔ P (.rt .non M) := Iff.rfl
@[simp ↓] theorem wp_brk : Wp (exs C (.brk :: r) ε M) P ↔ P (.bk ε M) := Iff.rfl
@[simp ↓] theorem wp_cnt : Wp (exs C (.cnt :: r) ε M) P ↔ P (.ct ε M) := Iff.rfl
@[simp ↓] theorem wp_pass : Wp (exs C (.pass :: r) ε M) P ↔ Wp (exs C r ε M) P := Iff.rfl
def Kexpr (C : Ctx) (r : List CS) (ε : Env) (P : Out → Prop) (_ : PV) (M : Mem) : Prop := Wp (exs C r ε M) P
@[simp ↓] theorem kexpr : Kexpr C r ε P v M ↔ Wp (exs C r ε M) P := Iff.rfl
@[simp ↓] theorem wp_expr {e : CE} : Wp (exs C (.expr e :: r) ε M) P ↔ Rp (ev C e ε M) (Kexpr C r ε P) (Ker ε P) := by
  rw [xs_cons, x_expr]
  generalize ev C e ε M = q
  cases q <;> exact Iff.rfl
theorem seq_assoc (o : Out) (f g : Env → Mem → Out) : (o.seq f).seq g = o.seq fun ε M => (f ε M).seq g := by cases o <;> rfl
theorem exs_app : ∀ (a : List CS) (ε : Env) (M : Mem), exs C (a ++ r) ε M = (exs C a ε M).seq fun ε M => exs C r ε M
  | [], ε, M => rfl
  | s :: a, ε, M => by
    show (ex C s ε M).seq (fun ε M => exs C (a ++ r) ε M) = ((ex C s ε M).seq fun ε M => exs C a ε M).seq _
    rw [seq_assoc]
    congr 1
    funext ε M
    exact exs_app a ε M
@[simp ↓] theorem wp_app0 : Wp (exs C ([] ++ r) ε M) P ↔ Wp (exs C r ε M) P := Iff.rfl
@[simp ↓] theorem wp_appS {s : CS} {a : List CS} : Wp (exs C ((s :: a) ++ r) ε M) P ↔ Wp (exs C (s :: (a ++ r)) ε M) P := Iff.rfl
def Kifs (C : Ctx) (a b r : List CS) (ε : Env) (P : Out → Prop) (t : Bool) (M : Mem) : Prop := match t with
  | true => Wp (exs C (a ++ r) ε M) P
  | false => Wp (exs C (b ++ r) ε M) P
@[simp ↓] theorem kifs_t {a b : List CS} : Kifs C a b r ε P true M ↔ Wp (exs C (a ++ r) ε M) P := Iff.rfl
@[simp ↓] theorem kifs_f {a b : List CS} : Kifs C a b r ε P false M ↔ Wp (exs C (b ++ r) ε M) P := Iff.rfl
@[simp ↓] theorem wp_ife {c : CE} {a b : List CS} : Wp (exs C (.ife c a b :: r) ε M) P ↔ Rp (ev C c ε M) (Kt (Kifs C a b r ε P)) (Ker ε P) := by
  rw [xs_cons, x_ifs, ← rp_test]
  generalize (ev C c ε M).test = q
  cases q with
  | ok t N =>
    cases t with
    | true => show Wp ((exs C a ε N).seq _) P ↔ Wp (exs C (a ++ r) ε N) P; rw [exs_app]
    | false => show Wp ((exs C b ε N).seq _) P ↔ Wp (exs C (b ++ r) ε N) P; rw [exs_app]
  | err e N => exact Iff.rfl
  | stuck => exact Iff.rfl
def Krais (G : Glo) (c : Nat) (ε : Env) (P : Out → Prop) (vs : List PV) (M : Mem) : Prop := match excOf G c vs with
  | some e => P (.er e ε M)
  | none => False
@[simp ↓] theorem wp_rais {c : Nat} {as : List CE} : Wp (exs C (.rais c as :: r) ε M) P ↔ Rp (evs C as ε M) (Krais C.G c ε P) (Ker ε P) := by
  show Wp (((evs C as ε M).out ε _).seq _) P ↔ _
  generalize evs C as ε M = q
  cases q with
  | ok vs N =>
    show Wp ((match excOf C.G c vs with
      | some e => Out.er e ε N
      | none => .stuck).seq _) P ↔ (match excOf C.G c vs with
      | some e => P (.er e ε N)
      | none => False)
    cases excOf C.G c vs <;> exact Iff.rfl
  | err e N => exact Iff.rfl
  | stuck => exact Iff.rfl
/-- behind a body with clauses -/
def Ktry (C : Ctx) (c : Nat) (i : Option Nat) (suite r : List CS) (P : Out → Prop) (o : Out) : Prop := Wp ((catch_ C.G c i (fun ε M => exs C suite ε M) o).seq fun ε M => exs C r ε M) P
@[simp ↓] theorem wp_try {body suite : List CS} {c : Nat} {i : Option Nat} : Wp (exs C (.tryx body c i suite :: r) ε M) P ↔ Wp (exs C body ε M) (Ktry C c i suite r P) := by
  rw [xs_cons, x_tryx]
  generalize exs C body ε M = o
  cases o <;> exact Iff.rfl
@[simp ↓] theorem ktry_nx {suite : List CS} {c : Nat} {i : Option Nat} : Ktry C c i suite r P (.nx ε M) ↔ Wp (exs C r ε M) P := Iff.rfl
@[simp ↓] theorem ktry_rt {suite : List CS} {c : Nat} {i : Option Nat} : Ktry C c i suite r P (.rt v M) ↔ P (.rt v M) := Iff.rfl
/-! ### loops -/
def Kbody (C : Ctx) (Inv : Nat → Env → Mem → Prop) (j : Nat) (r : List CS) (P : Out → Prop) : Out → Prop
  | .nx ε M => Inv (j + 1) ε M
  | .ct ε M => Inv (j + 1) ε M
  | .bk ε M => Wp (exs C r ε M) P
  | .rt v M => P (.rt v M)
  | .er e ε M => P (.er e ε M)
  | .stuck => False
section
variable {Inv : Nat → Env → Mem → Prop} {j : Nat}
@[simp ↓] theorem kbody_nx : Kbody C Inv j r P (.nx ε M) ↔ Inv (j + 1) ε M := Iff.rfl
@[simp ↓] theorem kbody_ct : Kbody C Inv j r P (.ct ε M) ↔ Inv (j + 1) ε M := Iff.rfl
@[simp ↓] theorem kbody_rt : Kbody C Inv j r P (.rt v M) ↔ P (.rt v M) := Iff.rfl
@[simp ↓] theorem kbody_bk : Kbody C Inv j r P (.bk ε M) ↔ Wp (exs C r ε M) P := Iff.rfl
theorem for_loop {t : CT} {body : List CS} : ∀ (xs : List PV) (k : Nat) (ε : Env) (M : Mem), Inv k ε M →
    (∀ j x ε N, xs[j]? = some x → Inv (k + j) ε N → ∃ ε1, bindT t x ε N = some ε1 ∧ Wp (exs C body ε1 N) (Kbody C Inv (k + j) r P)) → (∀ ε N, Inv (k + xs.length) ε N → Wp (exs C r ε N) P) → Wp ((forLoop t (fun ε M => exs C body ε M) [] xs ε M).seq fun ε M => exs C r ε M) P
  | [], k, ε, M, h, _, he => he ε M h
  | x :: l, k, ε, M, h, st, he => by
    obtain ⟨ε1, h1, h2⟩ := st 0 x ε M rfl h
    have go : ∀ ε2 M2, Inv (k + 1) ε2 M2 → Wp ((forLoop t (fun ε M => exs C body ε M) [] l ε2 M2).seq fun ε M => exs C r ε M) P := fun ε2 M2 h3 => for_loop l (k + 1) ε2 M2 h3 (fun j y ε N hj hp => by
      have := st (j + 1) y ε N (by simpa using hj) (by rwa [show k + (j + 1) = k + 1 + j by omega])
      rwa [show k + (j + 1) = k + 1 + j by omega] at this) (fun ε N hp => he ε N (by rwa [List.length_cons, show k + (l.length + 1) = k + 1 + l.length by omega]))
    show Wp ((match still [] M, bindT t x ε M with
      | true, some ε1 => (match exs C body ε1 M with
        | .nx ε2 M2 => forLoop t (fun ε M => exs C body ε M) [] l ε2 M2
        | .ct ε2 M2 => forLoop t (fun ε M => exs C body ε M) [] l ε2 M2
        | .bk ε2 M2 => .nx ε2 M2
        | o => o)
      | _, _ => .stuck).seq _) P
    rw [h1, still_nil]
    revert h2
    show Wp (exs C body ε1 M) _ → Wp ((match exs C body ε1 M with
        | .nx ε2 M2 => forLoop t (fun ε M => exs C body ε M) [] l ε2 M2
        | .ct ε2 M2 => forLoop t (fun ε M => exs C body ε M) [] l ε2 M2
        | .bk ε2 M2 => .nx ε2 M2
        | o => o).seq _) P
    generalize exs C body ε1 M = o
    cases o with
    | nx ε2 M2 => exact fun h => go ε2 M2 h
    | ct ε2 M2 => exact fun h => go ε2 M2 h
    | bk ε2 M2 => exact fun h => h
    | rt v M2 => exact fun h => h
    | er e ε2 M2 => exact fun h => h
    | stuck => exact fun h => h.elim
/-- a loop, to be opened by an invariant -/
def WFor (C : Ctx) (t : CT) (it : CI) (body r : List CS) (ε : Env) (M : Mem) (P : Out → Prop) : Prop := Wp (exs C (.for_ t it body :: r) ε M) P
@[simp ↓] theorem wp_forB {t : CT} {it : CI} {body : List CS} : Wp (exs C (.for_ t it body :: r) ε M) P ↔ WFor C t it body r ε M P := Iff.rfl
/-- for t in xs: body -/
theorem wp_for {t : CT} {it : CI} {body : List CS} (Inv : Nat → Env → Mem → Prop) (h : Rp (evi C it ε M) (fun its N => its.2 = [] ∧ Inv 0 ε N ∧ (∀ j x ε N, its.1[j]? = some x → Inv j ε N → ∃ ε1, bindT t x ε N = some ε1 ∧ Wp (exs C body ε1 N) (Kbody C Inv j r P)) ∧ (∀ ε N, Inv its.1.length ε N → Wp (exs C r ε N) P)) (Ker ε P)) : WFor C t it body r ε M P := by
  unfold WFor
  rw [xs_cons]
  show Wp (((evi C it ε M).out ε _).seq _) P
  revert h
  generalize evi C it ε M = q
  cases q with
  | ok its N =>
    rintro ⟨h1, h2, h3, h4⟩
    show Wp ((forLoop t (fun ε M => exs C body ε M) its.2 its.1 ε N).seq _) P
    rw [h1]
    exact for_loop its.1 0 ε N h2 (fun j x ε N hj hp => by
      have := h3 j x ε N hj (by simpa using hp)
      simpa using this) (fun ε N hp => h4 ε N (by simpa using hp))
  | err e N => exact fun h => h
  | stuck => exact fun h => h.elim
end
end
/-! ### calls of defs -/
/-- behind a body: Q of what is handed out and of the memory that is left -/
def Fin (M : Mem) (Q E : PV → Mem → Prop) : Out → Prop
  | .rt v N => Q v (fin M v N).2
  | .nx _ N => Q .non (fin M .non N).2
  | .er e _ N => E e (fin M e N).2
  | _ => False
section
variable {G : Glo} {w n f : Nat} {d : FDef} {as : List PV} {M N : Mem} {Q E : PV → Mem → Prop} {v : PV} {ε : Env}
@[simp ↓] theorem fin_rtP : Fin M Q E (.rt v N) ↔ Q v (fin M v N).2 := Iff.rfl
@[simp ↓] theorem fin_nxP : Fin M Q E (.nx ε N) ↔ Q .non (fin M .non N).2 := Iff.rfl
@[simp ↓] theorem fin_erP : Fin M Q E (.er v ε N) ↔ E v (fin M v N).2 := Iff.rfl
theorem rp_def (h : G.fns[f]? = some (.fn d)) (hl : as.length = d.np) (hb : Wp (exs ⟨call G w n, w, G⟩ d.body (as.map some ++ List.replicate (d.ns - d.np) none) M) (Fin M Q E)) : Rp (call G w (n + 1) f as M) Q E := by
  rw [call_fn h hl]
  revert hb
  generalize exs ⟨call G w n, w, G⟩ d.body (as.map some ++ List.replicate (d.ns - d.np) none) M = o
  cases o <;> exact fun h => h
/-- a def that hands out v and leaves the memory -/
theorem def_eq {v : PV} (h : G.fns[f]? = some (.fn d)) (hl : as.length = d.np) (hb : Wp (exs ⟨call G w n, w, G⟩ d.body (as.map some ++ List.replicate (d.ns - d.np) none) M) (Fin M (fun u N => u = v ∧ N = M) nev)) : call G w (n + 1) f as M = .ok v M := by
  obtain ⟨u, N, e, rfl, rfl⟩ := (rp_def (Q := fun u N => u = v ∧ N = M) (E := nev) h hl hb).get
  exact e
end
/-! ### what a law's draws leave -/
/-- M' is what M has become: only the cell i has changed, it is a law's state; more cells behind -/
structure Aft (i : Nat) (k : Int) (M M' : Mem) : Prop where
  len : M.length ≤ M'.length
  same : ∀ j, j < M.length → j ≠ i → M'[j]? = M[j]?
  ds : DS M' i k
theorem grow_of : ∀ {M N : Mem} {n i : Nat}, M.length ≤ N.length → (∀ j, j < M.length → j ≠ i → N[j]? = M[j]?) → (∀ c, N[i]? = some c → c.lt n = true) → Grow n M N
  | [], N, n, i, _, _, _ => .nil N
  | c :: M, [], n, i, hl, _, _ => by simp at hl
  | c :: M, d :: N, n, i, hl, hs, hi => by
    have hl' : M.length ≤ N.length := by simpa using hl
    cases i with
    | zero => exact .new c d (hi d rfl) (grow_of (i := M.length + 1 + N.length) hl' (fun j hj _ => by
        have := hs (j + 1) (by simpa using hj) (by omega)
        simpa using this) (fun c hc => by
        have := (List.getElem?_eq_some_iff.mp hc).1
        omega))
    | succ i =>
      have h0 : some d = some c := hs 0 (by simp) (by omega)
      cases h0
      exact .same c (grow_of (i := i) hl' (fun j hj hne => by
        have := hs (j + 1) (by simpa using hj) (by omega)
        simpa using this) (fun c hc => hi c (by simpa using hc)))
theorem DS.flat {M : Mem} {i : Nat} {k : Int} (h : DS M i k) {n : Nat} : ∀ c, M[i]? = some c → c.lt n = true := fun c hc => by
  obtain ⟨a, b, d, e, _⟩ := h
  rw [e] at hc
  cases hc
  rfl
namespace Aft
variable {i : Nat} {k l : Int} {M M' M'' K : Mem} {v : PV}
theorem refl (h : DS M i k) : Aft i k M M := ⟨Nat.le_refl _, fun _ _ _ => rfl, h⟩
theorem trans (h : Aft i k M M') (h2 : Aft i l M' M'') : Aft i l M M'' := ⟨Nat.le_trans h.len h2.len, fun j hj hn => (h2.same j (Nat.lt_of_lt_of_le hj h.len) hn).trans (h.same j hj hn), h2.ds⟩
theorem mono (h : Aft i k M M') (hk : k ≤ l) : Aft i l M M' := ⟨h.len, h.same, h.ds.mono hk⟩
theorem set {a b c : Int} (h : DS (M.set i (stC a b c)) i k) : Aft i k M (M.set i (stC a b c)) := ⟨by simp, fun j _ hn => List.getElem?_set_ne (Ne.symm hn), h⟩
theorem push (h : Aft i k M M') : Aft i k M (M' ++ K) := ⟨Nat.le_trans h.len (by simp), fun j hj hn => by rw [List.getElem?_append_left (Nat.lt_of_lt_of_le hj h.len)]; exact h.same j hj hn, h.ds.app⟩
theorem lt (h : Aft i k M M') : i < M'.length := h.ds.lt
theorem fin (h : Aft i k M M') (hv : v.lt M.length = true) : WT.fin M v M' = (v, M'.take M.length) := fin_of hv (grow_of h.len h.same h.ds.flat)
theorem take (h : Aft i k M M') (hi : i < M.length) : Aft i k M (M'.take M.length) := ⟨by rw [List.length_take]; have := h.len; omega, fun j hj hn => by rw [List.getElem?_take, if_pos hj]; exact h.same j hj hn, by
  obtain ⟨a, b, c, e, h1, h2⟩ := h.ds
  exact ⟨a, b, c, by rw [List.getElem?_take, if_pos hi]; exact e, h1, h2⟩⟩
theorem tlen (h : Aft i k M M') : (M'.take M.length).length = M.length := by rw [List.length_take]; have := h.len; omega
end Aft
section
variable {G : Glo} {w n f i : Nat} {d : FDef} {as : List PV} {M N : Mem} {Q E : PV → Mem → Prop} {R : PV → Prop} {v : PV} {k : Int}
/-- a def that draws: what it hands out, and the memory behind -/
def Dr (i : Nat) (k : Int) (M : Mem) (R : PV → Prop) : Out → Prop
  | .rt v N => v.lt M.length = true ∧ Aft i k M N ∧ R v
  | _ => False
@[simp ↓] theorem dr_rt : Dr i k M R (.rt v N) ↔ v.lt M.length = true ∧ Aft i k M N ∧ R v := Iff.rfl
theorem rp_dr {l : Int} (h : G.fns[f]? = some (.fn d)) (hl : as.length = d.np) (hD : DS M i l) (hb : Wp (exs ⟨call G w n, w, G⟩ d.body (as.map some ++ List.replicate (d.ns - d.np) none) M) (Dr i k M R)) : Rp (call G w (n + 1) f as M) (fun v M' => R v ∧ Aft i k M M' ∧ M'.length = M.length) nev := by
  rw [call_fn h hl]
  revert hb
  generalize exs ⟨call G w n, w, G⟩ d.body (as.map some ++ List.replicate (d.ns - d.np) none) M = o
  cases o with
  | rt v N =>
    rintro ⟨h1, h2, h3⟩
    show R v ∧ Aft i k M (fin M v N).2 ∧ _
    rw [h2.fin h1]
    exact ⟨h3, h2.take hD.lt, h2.tlen⟩
  | _ => exact fun h => h.elim
/-- a draw -/
theorem rp_draw {fd : Nat} {m : Int} (hfd : G.fns[fd]? = some (.fn ⟨2, 3, drawB⟩)) (hD : DS M i k) (hk : k < 2 ^ 39) (hm : 0 < m) (hm2 : m < 2 ^ 62) (h : ∀ (d : Nat) M', (d : Int) < m → Aft i (k + 1) M M' → M'.length = M.length → Q (.int (d : Int)) M') : Rp (call G w (n + 1) fd [.ref i, .int m] M) Q E := by
  obtain ⟨d, a, b, c, e, hd, hD1⟩ := drawN (w := w) (n := n) hfd hD (by omega) hm hm2
  exact Rp.of e (h d _ hd (Aft.set hD1) (by simp))
/-- one of some things -/
theorem rp_pick {fd fp : Nat} {xs : List PV} (hfd : G.fns[fd]? = some (.fn ⟨2, 3, drawB⟩)) (hfp : G.fns[fp]? = some (.fn ⟨2, 2, pickB fd⟩)) (hD : DS M i k) (hk : k < 2 ^ 39) (h0 : 0 < xs.length) (h1 : xs.length < 2 ^ 40) (hv : PV.lts M.length xs = true) (h : ∀ v M', v ∈ xs → Aft i (k + 1) M M' → M'.length = M.length → Q v M') : Rp (call G w (n + 2) fp [.ref i, .lst xs] M) Q E := by
  obtain ⟨v, a, b, c, e, hv, hD1⟩ := pick_call (w := w) (n := n) hfp hfd hD (by omega) h0 h1 hv
  exact Rp.of e (h v _ hv (Aft.set hD1) (by simp))
end
/-! ### comprehensions -/
section
variable {C : Ctx} {ε : Env} {M : Mem} {own : List Nat} {t : CT} {ce : CE} {it : CI} {Q E : PV → Mem → Prop}
/-- a comprehension, to be opened by what its elements are -/
def RLc (C : Ctx) (m : Bool) (own : List Nat) (ce : CE) (t : CT) (it : CI) (ifs : List CE) (ε : Env) (M : Mem) (Q E : PV → Mem → Prop) : Prop := Rp (ev C (.lc m own ce t it ifs) ε M) Q E
@[simp ↓] theorem rp_lcB {m : Bool} {ifs : List CE} : Rp (ev C (.lc m own ce t it ifs) ε M) Q E ↔ RLc C m own ce t it ifs ε M Q E := Iff.rfl
/-- [f x for x in xs] -/
theorem rp_lc (f : PV → PV) (h : Rp (evi C it ε M) (fun its N => N = M ∧ its.2 = [] ∧ its.1.length ≤ sline ∧ (∀ x ∈ its.1, (f x).lt M.length = true) ∧ (∀ x ∈ its.1, ∀ acc, ∃ ε1, bindT t x (wipeE ε own) (M ++ [.lst acc]) = some ε1 ∧ ev C ce ε1 (M ++ [.lst acc]) = .ok (f x) (M ++ [.lst acc])) ∧ Q (.lst (its.1.map f)) M) E) : RLc C false own ce t it [] ε M Q E := by
  show Rp (ev C (.lc false own ce t it []) ε M) Q E
  revert h
  cases hq : evi C it ε M with
  | ok its N =>
    rintro ⟨rfl, h1, h2, h3, h4, h5⟩
    obtain ⟨xs, src⟩ := its
    simp only at h1
    subst h1
    rw [e_lc hq h2 h4 h3]
    exact h5
  | err e N =>
    intro h
    show Rp ((evi C it ε M).bind _) Q E
    rw [hq]
    exact h
  | stuck => exact fun h => h.elim
theorem lcD_loop {elt : Env → Mem → Res PV} {i L : Nat} {R : PV → Prop} {B d : Int} (hd : 0 ≤ d) : ∀ (xs acc : List PV) (N : Mem) (k : Int), L < N.length → i ≠ L → N[L]? = some (.lst acc) → DS N i k → k + d * (xs.length : Int) ≤ B → acc.length + xs.length ≤ sline →
    (∀ x ∈ xs, ∀ N k, L < N.length → DS N i k → k + d ≤ B → ∃ ε1, bindT t x (wipeE ε own) N = some ε1 ∧ Rp (elt ε1 N) (fun v N' => R v ∧ Aft i (k + d) N N') nev) →
    ∃ vs N', lcLoop own t (fun _ M => .ok true M) elt [] ε L xs N = .ok () N' ∧ N'[L]? = some (.lst (acc ++ vs)) ∧ N.length ≤ N'.length ∧ (∀ j, j < L → j ≠ i → N'[j]? = N[j]?) ∧ DS N' i (k + d * (xs.length : Int)) ∧ vs.length = xs.length ∧ ∀ v ∈ vs, R v
  | [], acc, N, k, hL, hi, hN, hD, hk, hl, _ => ⟨[], N, rfl, (by rw [List.append_nil]; exact hN), Nat.le_refl _, fun _ _ _ => rfl, (by simpa using hD), rfl, fun v hv => by cases hv⟩
  | x :: r, acc, N, k, hL, hi, hN, hD, hk, hl, h => by
    have hlen : ((x :: r).length : Int) = (r.length : Int) + 1 := by simp
    rw [hlen, Int.mul_add, Int.mul_one] at hk
    have hr : 0 ≤ d * (r.length : Int) := Int.mul_nonneg hd (by omega)
    simp only [List.length_cons] at hl
    obtain ⟨ε1, h1, h2⟩ := h x List.mem_cons_self N k hL hD (by omega)
    obtain ⟨v, N1, e1, hv, hA⟩ := h2.get
    have hN1 : N1[L]? = some (.lst acc) := (hA.same L hL (Ne.symm hi)).trans hN
    have hL1 : L < N1.length := Nat.lt_of_lt_of_le hL hA.len
    have hD1 : DS (N1.set L (.lst (acc ++ [v]))) i (k + d) := by
      obtain ⟨a, b, c, e, q⟩ := hA.ds
      exact ⟨a, b, c, by rw [List.getElem?_set_ne (Ne.symm hi)]; exact e, q⟩
    obtain ⟨vs, N', q1, q2, q3, q4, q5, q6, q7⟩ := lcD_loop hd r (acc ++ [v]) (N1.set L (.lst (acc ++ [v]))) (k + d) (by simpa using hL1) hi (List.getElem?_set_self hL1) hD1 (by omega) (by rw [List.length_append, List.length_singleton]; omega) fun y hy => h y (List.mem_cons_of_mem _ hy)
    refine ⟨v :: vs, N', ?_, by rw [q2, List.append_assoc]; rfl, ?_, fun j hj hn => ?_, ?_, by simp [q6], fun u hu => ?_⟩
    · show (match still [] N, bindT t x (wipeE ε own) N with
        | true, some ε1 => (match Res.ok true N with
          | .ok true M1 => (match elt ε1 M1 with
            | .ok v M2 => (match M2[L]? with
              | some (.lst acc) => (match decide (acc.length < sline) with
                | true => lcLoop own t (fun _ M => .ok true M) elt [] ε L r (M2.set L (.lst (acc ++ [v])))
                | false => .stuck)
              | _ => .stuck)
            | _ => .stuck)
          | .ok false M1 => lcLoop own t (fun _ M => .ok true M) elt [] ε L r M1
          | _ => .stuck)
        | _, _ => .stuck) = _
      rw [h1, still_nil]
      simp only [e1, hN1, decide_eq_true (show acc.length < sline by omega)]
      exact q1
    · rw [List.length_set] at q3
      exact Nat.le_trans hA.len q3
    · rw [q4 j hj hn, List.getElem?_set_ne (by omega)]
      exact hA.same j (by omega) hn
    · rw [hlen, Int.mul_add, Int.mul_one, show k + (d * (r.length : Int) + d) = k + d + d * (r.length : Int) by omega]
      exact q5
    · rcases List.mem_cons.mp hu with rfl | hu
      · exact hv
      · exact q7 u hu
/-- [elt for t in xs], each element draws at most d times -/
theorem rp_lcD {i : Nat} {k : Int} (d : Int) (R : PV → Prop) (hd : 0 ≤ d) (hR : ∀ v n, R v → v.lt n = true) (h : Rp (evi C it ε M) (fun its N => its.2 = [] ∧ DS N i k ∧ its.1.length ≤ sline ∧
    (∀ x ∈ its.1, ∀ N' k', DS N' i k' → k' + d ≤ k + d * (its.1.length : Int) → ∃ ε1, bindT t x (wipeE ε own) N' = some ε1 ∧ Rp (ev C ce ε1 N') (fun v N'' => R v ∧ Aft i (k' + d) N' N'') nev) ∧
    (∀ vs N', vs.length = its.1.length → (∀ v ∈ vs, R v) → Aft i (k + d * (its.1.length : Int)) N N' → N'.length = N.length → Q (.lst vs) N')) E) : RLc C false own ce t it [] ε M Q E := by
  show Rp ((evi C it ε M).bind _) Q E
  rw [rp_bind]
  revert h
  generalize evi C it ε M = q
  cases q with
  | ok its N =>
    rintro ⟨h1, hD, h2, h3, h4⟩
    obtain ⟨xs, src⟩ := its
    simp only at h1 h2 h3 h4
    subst h1
    have hi := hD.lt
    obtain ⟨vs, N', e, q1, q2, q3, q4, q5, q6⟩ := lcD_loop (own := own) (t := t) (ε := ε) (elt := fun ε M => ev C ce ε M) (i := i) (L := N.length) (R := R) hd xs [] (N ++ [Cell.lst []]) k (by simp) (by omega) (by simp) hD.app (Int.le_refl _) (by simpa using h2) (fun x hx N' k' _ hD' hk' => h3 x hx N' k' hD' hk')
    show Rp ((lcLoop own t (fun ε M => .ok true M) (fun ε M => ev C ce ε M) [] ε N.length xs (N ++ [Cell.lst []])).bind fun _ M1 => lcEnd false N M1) Q E
    rw [e]
    show Rp (lcEnd false N N') Q E
    rw [List.nil_append] at q1
    have hA : Aft i (k + d * (xs.length : Int)) N (N'.set N.length .dead) := ⟨by
      rw [List.length_set]
      simp at q2
      omega, fun j hj hn => by
      rw [List.getElem?_set_ne (by omega), q3 j hj hn, List.getElem?_append_left hj], by
      obtain ⟨a, b, c, e, q⟩ := q4
      exact ⟨a, b, c, by rw [List.getElem?_set_ne (by omega)]; exact e, q⟩⟩
    unfold lcEnd
    simp only [q1]
    rw [hA.fin (v := .lst vs) (lts_of fun v hv => hR v _ (q6 v hv))]
    exact h4 vs _ q5 q6 (hA.take hi) hA.tlen
  | err e N => exact fun h => h
  | stuck => exact fun h => h.elim
end
end
end WT
set_option maxRecDepth 100000
set_option autoImplicit false
/-! More rules: what is held against itself, cells of a script, turns. -/
namespace WT
noncomputable section
open PySem (Str CmpOp Operator PyData)
/-- behind a body that runs to its end -/
def Nx (P : Env → Mem → Prop) : Out → Prop
  | .nx ε M => P ε M
  | _ => False
section
variable {P : Env → Mem → Prop} {ε : Env} {M N : Mem} {C : Ctx} {o : Out} {Q E : PV → Mem → Prop} {v x y : PV} {xs ys : List PV}
@[simp ↓] theorem nx_nx : Nx P (.nx ε M) ↔ P ε M := Iff.rfl
theorem Wp.mono {P P' : Out → Prop} (h : Wp o P) (hp : ∀ o, P o → P' o) : Wp o P' := by
  cases o with
  | stuck => exact h.elim
  | _ => exact hp _ h
theorem rp_neT (h : eqData M (.tup xs) (.tup ys) = some true) (hq : Q (.bl false) M) : Rp (cmpop C .NotEq (.tup xs) (.tup ys) M) Q E :=
  (rp_neD (b := true) (fun c fs h => by cases h) (fun c fs h => by cases h) h).mpr hq
theorem rp_neS_self {s : Str} (hq : Q (.bl false) M) : Rp (cmpop C .NotEq (.str s) (.str s) M) Q E := by
  rw [rp_neS]
  simpa using hq
/-- texts and None -/
def Fla (x : PV) : Prop := x = .non ∨ ∃ s, x = .str s ∧ PyData.strOk s = true
theorem fla_data : ∀ xs : List PV, (∀ x ∈ xs, Fla x) → ∃ ds, (∀ r, deepWs r xs = some ds) ∧ PyData.canLayAll0 ds = true ∧ PyData.depthAll ds = 0 ∧ PyData.eqvAll ds ds = true
  | [], _ => ⟨[], fun _ => rfl, rfl, rfl, rfl⟩
  | x :: r, h => by
    obtain ⟨ds, e, h1, h2, h3⟩ := fla_data r fun y hy => h y (List.mem_cons_of_mem _ hy)
    rcases h x List.mem_cons_self with rfl | ⟨s, rfl, hs⟩
    · refine ⟨.none :: ds, fun q => ?_, h1, ?_, h3⟩
      · show (some PyData.none).bind (fun d => (deepWs q r).map fun ds => d :: ds) = _
        rw [e q]
        rfl
      · show max 0 (PyData.depthAll ds) = 0
        rw [h2]; rfl
    · refine ⟨.str s :: ds, fun q => ?_, ?_, ?_, ?_⟩
      · show (some (PyData.str s)).bind (fun d => (deepWs q r).map fun ds => d :: ds) = _
        rw [e q]
        rfl
      · show (PyData.strOk s && PyData.canLayAll0 ds) = true
        rw [hs, h1]; rfl
      · show max 0 (PyData.depthAll ds) = 0
        rw [h2]; rfl
      · show ((s == s) && PyData.eqvAll ds ds) = true
        rw [h3]; simp
/-- a tuple of texts and None is equal to itself -/
theorem eq_fla (h : ∀ x ∈ xs, Fla x) : eqData M (.tup xs) (.tup xs) = some true := by
  obtain ⟨ds, e, h1, h2, h3⟩ := fla_data xs h
  have e1 : deep M (.tup xs) = some (.tuple ds) := by
    show (deepWs _ xs).map PyData.tuple = _
    rw [e]
    rfl
  have e2 : PySem.SeqAt.shaped (.tuple ds) = true := by
    unfold PySem.SeqAt.shaped
    rw [Bool.and_eq_true]
    refine ⟨h1, decide_eq_true ?_⟩
    show PyData.depthAll ds + 1 ≤ 64
    omega
  show (deep M (.tup xs)).bind (fun d => (deep M (.tup xs)).bind fun e => if PySem.SeqAt.shaped d && PySem.SeqAt.shaped e then some (PyData.eqv d e) else none) = _
  rw [e1]
  show (if PySem.SeqAt.shaped (.tuple ds) && PySem.SeqAt.shaped (.tuple ds) then some (PyData.eqv (.tuple ds) (.tuple ds)) else none) = _
  rw [e2]
  show some (PyData.eqvAll ds ds) = _
  rw [h3]
theorem rep_one {d : Nat} {x : PV} : repP (d : Int) [x] = List.replicate d x := by
  unfold repP
  rw [Int.toNat_natCast]
  induction d with
  | zero => rfl
  | succ d ih => rw [List.replicate_succ, List.replicate_succ, List.flatten_cons, ih]; rfl
/-! ### a cell of the script -/
def cellB : List CS := [(.ret (.ife (.cmp .NotEq (.loc 0) (.lst false [])) (.idx (.loc 0) (.bin .Mod false (.loc 1) (.bfn .len false [(.loc 0)]))) (.lit (.int 0))))]
theorem lay_nums : ∀ ns : List Int, PyData.canLayAll0 (ns.map PyData.int) = true ∧ PyData.depthAll (ns.map PyData.int) = 0
  | [] => ⟨rfl, rfl⟩
  | n :: r => by
    obtain ⟨h1, h2⟩ := lay_nums r
    refine ⟨?_, ?_⟩
    · show (true && PyData.canLayAll0 (r.map PyData.int)) = true
      rw [h1]; rfl
    · show max 0 (PyData.depthAll (r.map PyData.int)) = 0
      rw [h2]; rfl
theorem deepWs_nums {r : Nat → Option PyData} : ∀ xs : List Int, deepWs r (xs.map PV.int) = some (xs.map PyData.int)
  | [] => rfl
  | x :: l => by
    show (deepW r (.int x)).bind (fun d => (deepWs r (l.map PV.int)).map fun ds => d :: ds) = _
    rw [deepWs_nums l]
    rfl
theorem eq_nums_nil {ns : List Int} : eqData M (.lst (ns.map .int)) (.lst []) = some ns.isEmpty := by
  have e1 : deep M (.lst (ns.map .int)) = some (.list (ns.map PyData.int)) := by
    show (deepWs _ (ns.map PV.int)).map PyData.list = _
    rw [deepWs_nums]
    rfl
  have e2 : PySem.SeqAt.shaped (.list (ns.map PyData.int)) = true := by
    obtain ⟨h1, h2⟩ := lay_nums ns
    unfold PySem.SeqAt.shaped
    rw [Bool.and_eq_true]
    refine ⟨h1, decide_eq_true ?_⟩
    show PyData.depthAll (ns.map PyData.int) + 1 ≤ 64
    omega
  show (deep M (.lst (ns.map .int))).bind (fun d => (deep M (.lst [])).bind fun e => if PySem.SeqAt.shaped d && PySem.SeqAt.shaped e then some (PyData.eqv d e) else none) = _
  rw [e1]
  show (if PySem.SeqAt.shaped (.list (ns.map PyData.int)) && PySem.SeqAt.shaped (.list []) then some (PyData.eqv (.list (ns.map PyData.int)) (.list [])) else none) = _
  rw [e2]
  show some (PyData.eqv (.list (ns.map PyData.int)) (.list [])) = _
  cases ns <;> rfl
theorem cellCall {G : Glo} {w n f : Nat} {ns : List Int} {j : Nat} (h : G.fns[f]? = some (.fn ⟨2, 2, cellB⟩)) : ∃ q : Int, ∀ M, call G w (n + 1) f [.lst (ns.map .int), .int (j : Int)] M = .ok (.int q) M := by
  have ne : ∀ M, cmpop ⟨call G w n, w, G⟩ .NotEq (.lst (ns.map .int)) (.lst []) M = .ok (.bl (!ns.isEmpty)) M := fun M => by
    show ofOpt M ((eqData M (.lst (ns.map .int)) (.lst [])).map fun b => .bl (!b)) = _
    rw [eq_nums_nil]
    rfl
  cases ns with
  | nil =>
    refine ⟨0, fun M => call_ok h rfl rfl ?_⟩
    rfl
  | cons a r =>
    have hl : (0 : Int) < ((a :: r).length : Int) := by simp
    have hm : ∃ q, (a :: r)[j % (a :: r).length]? = some q := ⟨_, List.getElem?_eq_getElem (Nat.mod_lt _ (by simp))⟩
    obtain ⟨q, hq⟩ := hm
    refine ⟨q, fun M => def_eq h rfl ?_⟩
    show Wp (exs ⟨call G w n, w, G⟩ cellB [some (.lst ((a :: r).map .int)), some (.int (j : Int))] M) _
    unfold cellB
    rw [wp_ret, rp_ife, rp_cmp, rp_loc0, kcmp1, rp_lst, rp_nil, klst, kcmp2, ne, rp_ok, kt_bl]
    show Rp (ev _ (.idx (.loc 0) (.bin .Mod false (.loc 1) (.bfn .len false [(.loc 0)]))) _ M) _ _
    have e : ((j : Int) % ((a :: r).length : Int)) = ((j % (a :: r).length : Nat) : Int) := by simp
    rw [rp_idx, rp_loc0, kidx1, rp_bin, rp_locS, rp_loc0, kbin1, rp_bfn, rp_cons, rp_loc0, kcons1, rp_nil, kcons2, kbfn, rp_lenL, kbin2, List.length_map, rp_modI]
    refine ⟨hl, ?_⟩
    rw [kidx2, e, i_lst (k := j % (a :: r).length) (v := .int q) (by rw [List.getElem?_map, hq]; rfl), rp_ok, kret, fin_rtP, fin_self rfl]
    exact ⟨rfl, rfl⟩
/-- a turn's state is made -/
theorem rp_begin {G : Glo} {w n f : Nat} {c : Int} {t : Nat} (hf : G.fns[f]? = some (.fn ⟨2, 2, beginB⟩)) (ht : t < 2 ^ 40) (h : ∀ M', DS M' M.length 0 → Q (.ref M.length) M') : Rp (call G w (n + 1) f [.int c, .int (t : Int)] M) Q E := by
  obtain ⟨a, b, e⟩ := begin_call (w := w) (n := n) (M := M) (c := c) (t := (t : Int)) hf (by omega) (by omega)
  exact Rp.of e (h _ (DS.begin a b))
/-- names drawn -/
theorem rp_names {G : Glo} {w n fd fp fn i m : Nat} {k : Int} (hfd : G.fns[fd]? = some (.fn ⟨2, 3, drawB⟩)) (hfp : G.fns[fp]? = some (.fn ⟨2, 2, pickB fd⟩)) (hfn : G.fns[fn]? = some (.fn ⟨2, 8, namesB fd fp⟩)) (hm : m ≤ 26) (hD : DS M i k) (hk : k + 200 < 2 ^ 39) (h : ∀ (ns : List Str) (M' : Mem), ns.length = m → Good ns → ns.Nodup → Aft i (k + 160) M M' → M'.length = M.length → Q (.lst (ns.map .str)) M') : Rp (call G w (n + 3) fn [.ref i, .int (m : Int)] M) Q E := by
  obtain ⟨f, ns, a, b, c, e, hl, hn, hD1⟩ := namesCall (w := w) hfd hfp hfn (n := n) (m := m) hD hk hm
  exact Rp.of e (h ns _ hl (fun s hs => by
    obtain ⟨p, hp, rfl⟩ := List.getElem_of_mem hs
    exact (hn p _ (List.getElem?_eq_getElem hp)).ok) (names_nodup hn (by omega)) (Aft.set hD1) (by simp))
/-- one out of a list in a cell -/
theorem rp_pickR {G : Glo} {w n fd fp i r : Nat} {k : Int} (hfd : G.fns[fd]? = some (.fn ⟨2, 3, drawB⟩)) (hfp : G.fns[fp]? = some (.fn ⟨2, 2, pickB fd⟩)) (hr : M[r]? = some (.lst xs)) (hi : i ≠ r) (hD : DS M i k) (hk : k < 2 ^ 39) (h0 : 0 < xs.length) (h1 : xs.length < 2 ^ 40) (hv : PV.lts M.length xs = true) (h : ∀ v M', v ∈ xs → Aft i (k + 1) M M' → M'.length = M.length → Q v M') : Rp (call G w (n + 2) fp [.ref i, .ref r] M) Q E := by
  obtain ⟨v, a, b, c, e, hv, hD1⟩ := pick_ref (w := w) (n := n) hfd hfp hD (by omega) hr hi h0 h1 hv
  exact Rp.of e (h v _ hv (Aft.set hD1) (by simp))
theorem DS.ne {i : Nat} {k : Int} (h : DS M i k) : i ≠ M.length := by have := h.lt; omega
end
end
end WT
set_option maxRecDepth 100000
set_option autoImplicit false
/-! Comprehensions that make dicts. -/
namespace WT
noncomputable section
open PySem PySem.Spec PyProof.Rows L2

section
variable {g : Gx} {W : WX} {C : Ctx} {X : Cx} {ε : WT.Env} {σ : SS} {ρ : List Addr} {M : Mem} {H : Hp} {T : List (PV × V)}
theorem key_of {p : PV} {v : V} (hk : isKey p = true) (h : RV g ρ M H p v) : ∃ k : Key, p = kPV k ∧ v = kV k := by
  cases p with
  | int i => exact ⟨.inl i, rfl, h.int⟩
  | str z => exact ⟨.inr z, rfl, h.str.1⟩
  | _ => cases hk
theorem putD_of {n : Nat} {k v : PV} {M3 : Mem} (h : putD n k v M = some M3) : isKey k = true ∧ ∃ kvs, M[n]? = some (.dic kvs) ∧ kvs.length < sline ∧ M3 = M.set n (.dic (putKV k v kvs)) := by
  unfold putD at h
  split at h
  · rename_i kvs e1 e2
    split at h
    · rename_i e3
      cases h
      exact ⟨e1, kvs, e2, of_decide_eq_true e3, rfl⟩
    · cases h
  · cases h
/-- an item more, in a dict's cell -/
theorem Rl.putDic {i : Nat} {a : Addr} {k : Key} {p : PV} {v : V} {kvs : List (PV × PV)} (R : Rl g ρ M H ε T σ) (hi : ρ[i]? = some a) (e : M[i]? = some (.dic kvs)) (hz : kvs.length < sizeLine) (hv : RV g ρ M H p v) :
    ∃ kws, H a = some (.dK kws) ∧ kws.length < sizeLine ∧ Rl g ρ (M.set i (.dic (putKV (kPV k) p kvs))) (upd H a (.dK (L2.putK kws k v))) ε T σ := by
  obtain ⟨_, kws, hH, rr⟩ := R.cel i a _ hi e
  have l : Lat ρ M H ρ (M.set i (.dic (putKV (kPV k) p kvs))) (upd H a (.dK (L2.putK kws k v))) := Lat.put hi e (fun z => nomatch z)
  exact ⟨kws, hH, by rw [← rr.length]; exact hz, R.put (c' := .dic (putKV (kPV k) p kvs)) (o := .dK (L2.putK kws k v)) hi e (fun z => nomatch z) ⟨Nat.le_trans putKV_len hz, _, upd_same, RVd.later R.cells l (rr.put hv)⟩⟩
/-- one turn's key and value, and what then holds -/
theorem dcElt {α : Type} {ck cv : CE} {ε1 : WT.Env} {T' Tb : List (PV × V)} {σ2 : SS} {n : Nat} {D : Addr} {Z : Mem → Res Unit} {K : Unit → Mem → Res α} {A : α → List Addr → Mem → Hp → Prop} (hD : (PV.ref n, V.ref D) ∈ Tb) (R : Rl g ρ M H ε1 Tb σ2)
    (h : resW g W ((match ev C ck ε1 M with
      | .ok k M1 => (match ev C cv ε1 M1 with
        | .ok v M2 => (match putD n k v M2 with
          | some M3 => Z M3
          | none => .stuck)
        | _ => .stuck)
      | _ => .stuck).bind K) ε T' σ A)
    {Nx : Hp → Prop} (hn : ∀ ρ M3 H3, Rl g ρ M3 H3 [] Tb [] → resW g W ((Z M3).bind K) ε T' σ A → Nx H3) : tR g W0 (ev C ck) σ2 H fun y H4 => tR g W0 (ev C cv) σ2 H4 fun z H5 => ∃ kvs k, y = kV k ∧ H5 D = some (.dK kvs) ∧ kvs.length < sizeLine ∧ Nx (upd H5 D (.dK (L2.putK kvs k z))) := by
  refine ⟨ρ, M, ε1, Tb, R, ?_⟩
  cases e1 : ev C ck ε1 M with
  | ok k M1 =>
    simp only [e1] at h
    intro ρ1 H1 R1 y hy
    refine ⟨ρ1, M1, ε1, Tb, R1, ?_⟩
    cases e2 : ev C cv ε1 M1 with
    | ok v M2 =>
      simp only [e2] at h
      intro ρ2 H2 R2 z hz
      split at h
      · rename_i M3 e3
        obtain ⟨hk, kvs, em, hl, rfl⟩ := putD_of e3
        obtain ⟨j, rfl, rfl⟩ := key_of hk hy
        have hD2 := R2.tmp _ hD
        unfold RV at hD2
        obtain ⟨a, ea, hi⟩ := hD2
        cases ea
        obtain ⟨kws, hH, hlen, R3⟩ := R2.putDic (k := j) hi em (by rw [← sline_eq]; exact hl) hz
        exact ⟨kws, j, rfl, hH, hlen, hn _ _ _ (R3.blank []) h⟩
      · exact h.elim
    | err e M2 => simp only [e2] at h; exact h.elim
    | stuck => simp only [e2] at h; exact h.elim
  | err e M1 => simp only [e1] at h; exact h.elim
  | stuck => simp only [e1] at h; exact h.elim
/-- behind the loop -/
theorem dcEnd_of {ρ1 ρ2 : List Addr} {M1 M2 : Mem} {H1 H2 : Hp} {T' : List (PV × V)} {m : Bool} {D : Addr} {Q : VK} (R1 : Rl g ρ1 M1 H1 ε T' σ) (R2 : Rl g ρ2 M2 H2 ε T' σ) (hD : ρ2[M1.length]? = some D) (h : resW g W (dcEnd m M1 M2) ε T' σ (EndQ g Q)) : Q (.ref D) H2 := by
  cases m with
  | true =>
    refine h ρ2 H2 R2 (.ref D) ?_
    unfold RV
    exact ⟨D, rfl, hD⟩
  | false =>
    have h : resW g W (match M2[M1.length]? with
      | some (.dic kvs) => .ok (.dic kvs) (WT.fin M1 (.dic kvs) (M2.set M1.length .dead)).2
      | _ => .stuck) ε T' σ (EndQ g Q) := h
    split at h
    · rename_i kvs e3
      obtain ⟨ρ5, R9, rv⟩ := Rl.thawD R1 R2 hD e3
      exact h ρ5 H2 R9 (.ref D) rv
    · exact h.elim
end
section
variable {g : Gx} {W : WX} {C : Ctx} {X : Cx} {kx vx tg iter tg1 iter1 : Expr} {scope : Scope} {own : List (Str × Nat)} {pos : Pos} {t t1 : CT} {ci ci1 : CI} {ck cv : CE} {m : Bool}
abbrev dcRest (C : Ctx) (own : List Nat) (t : CT) (ck cv : CE) (m : Bool) (its : Items) (ε : WT.Env) (M1 : Mem) (r : List PV) (M : Mem) : Res PV :=
  (dcLoop own t (fun ε M => ev C ck ε M) (fun ε M => ev C cv ε M) its.2 ε M1.length r M).bind fun _ M' => dcEnd m M1 M'
theorem dc_reads {σ : SS} {own : List Nat} {H : Hp} {Q : VK} (hct : ∀ j ∈ ctS t, j ∈ own) (h : tR g W (ev C (.dcm m own ck cv t ci)) σ H Q) :
    tDc (tI g W (evi C ci)) (tG g t) (tRt g W0 (tst C [])) (tR g W0 (ev C ck)) (tR g W0 (ev C cv)) own σ H Q := by
  obtain ⟨ρ, M, ε, T, R, h⟩ := h
  have h : resW g W ((evi C ci ε M).bind fun its M => dcRest C own t ck cv m its ε M its.1 (M ++ [.dic []])) ε T σ (EndQ g Q) := h
  refine ⟨ρ, M, ε, T, R, h.bind.imp fun its ρ1 M1 H1 R1 h1 J T' hT R1' rel D hD => ?_⟩
  have h1 := h1.more hT
  have Rn := R1'.new (c := .dic []) (o := .dK []) hD ⟨Nat.zero_le _, [], upd_same, by unfold RVd; rfl⟩
  have hn : (ρ1 ++ [D])[M1.length]? = some D := by rw [← R1'.len]; simp
  have refD : ∀ {ρ : List Addr} {M : Mem} {H : Hp}, ρ[M1.length]? = some D → RV g ρ M H (.ref M1.length) (.ref D) := fun h => by
    unfold RV
    exact ⟨D, rfl, h⟩
  have atD : ∀ {ρ : List Addr} {M : Mem} {H : Hp}, RV g ρ M H (.ref M1.length) (.ref D) → ρ[M1.length]? = some D := fun h => by
    unfold RV at h
    obtain ⟨a, e, h⟩ := h
    cases e
    exact h
  generalize hTb : (PV.ref M1.length, V.ref D) :: (slots ε σ ++ T') = Tb
  have mD : (PV.ref M1.length, V.ref D) ∈ Tb := hTb ▸ List.mem_cons_self
  have mS : ∀ q ∈ slots ε σ ++ T', q ∈ Tb := fun q hq => hTb ▸ List.mem_cons_of_mem _ hq
  have back : ∀ {ρ : List Addr} {M : Mem} {H : Hp}, Rl g ρ M H [] Tb [] → Rl g ρ M H ε T' σ := fun R => R1'.unpack (R.weak mS)
  have toB : ∀ {ρ : List Addr} {M : Mem} {H : Hp}, Rl g ρ M H ε T' σ → ρ[M1.length]? = some D → ∀ q ∈ Tb, RV g ρ M H q.1 q.2 := fun R hr q hq => by
    subst hTb
    rcases List.mem_cons.mp hq with rfl | hq
    · exact refD hr
    · exact R.allT q hq
  refine ⟨fun i k H => ∃ ρ M, Rl g ρ M H [] Tb [] ∧ i + k = its.1.length ∧ resW g W (dcRest C own t ck cv m its ε M1 (its.1.drop i) M) ε T' σ (EndQ g Q),
    ⟨its.1.length, ρ1 ++ [D], M1 ++ [Cell.dic []], (Rn.withT (toB Rn hn)).blank [], by omega, h1⟩, fun i k H2 ⟨ρ2, M2, R2, hik, h2⟩ => ?_⟩
  have hD2 := atD (R2.tmp _ mD)
  have R2u := back R2
  by_cases hi : i < its.1.length
  · have ed : its.1.drop i = its.1[i] :: its.1.drop (i + 1) := List.drop_eq_getElem_cons hi
    rw [ed] at h2
    have h2 : resW g W ((match still its.2 M2, bindT t its.1[i] (wipeE ε own) M2 with
      | true, some ε1 => (match ev C ck ε1 M2 with
        | .ok k M1' => (match ev C cv ε1 M1' with
          | .ok v M3 => (match putD M1.length k v M3 with
            | some M4 => dcLoop own t (fun ε M => ev C ck ε M) (fun ε M => ev C cv ε M) its.2 ε M1.length (its.1.drop (i + 1)) M4
            | none => .stuck)
          | _ => .stuck)
        | _ => .stuck)
      | _, _ => .stuck).bind fun _ M' => dcEnd m M1 M') ε T' σ (EndQ g Q) := h2
    split at h2
    · rename_i ε1 hst hbd
      obtain ⟨go, yl⟩ := rel.go i its.1[i] ρ2 M2 H2 ε σ R2u hst (List.getElem?_eq_getElem hi)
      refine .inr ⟨go, fun H' => ∃ ρ M, Rl g ρ M H' [] Tb [] ∧ resW g W (dcRest C own t ck cv m its ε M1 (its.1.drop (i + 1)) M) ε T' σ (EndQ g Q), fun H' ⟨ρ, M, R, h⟩ => ⟨k - 1, by omega, ρ, M, R, by omega, h⟩, fun x H' hy => ?_⟩
      have R3 := yl x H' hy
      have R4 : Rl g ρ2 M2 H' (wipeE ε own) ((its.1[i], x) :: Tb) (wipe σ own) := (R3.wipe own).withT fun q hq => by
        rcases List.mem_cons.mp hq with rfl | hq
        · exact R3.head
        · exact toB R3.tail hD2 q hq
      refine ⟨ρ2, M2, _, _, its.1[i], ε1, R4, R4.head, hbd, fun σ2 R5 ag => ⟨wipe_agr ag hct, ρ2, M2, ε1, Tb, R5.tail, ?_⟩⟩
      intro ρ3 H3 R6
      show tR g W0 (ev C ck) σ2 H3 _
      exact dcElt (W := W) (Nx := fun H' => ∃ ρ M, Rl g ρ M H' [] Tb [] ∧ resW g W (dcRest C own t ck cv m its ε M1 (its.1.drop (i + 1)) M) ε T' σ (EndQ g Q)) mD R6 h2 fun ρ M3 H3 R h => ⟨ρ, M3, R, h⟩
    · exact h2.elim
  · have ed : its.1.drop i = [] := List.drop_eq_nil_of_le (by omega)
    rw [ed] at h2
    have h2 : resW g W ((match still its.2 M2 with
      | true => Res.ok () M2
      | false => .stuck).bind fun _ M' => dcEnd m M1 M') ε T' σ (EndQ g Q) := h2
    split at h2
    · rename_i hst
      refine .inl ⟨?_, dcEnd_of R1' R2u hD2 h2⟩
      have ei : i = its.1.length := by omega
      rw [ei]
      exact rel.stop ρ2 M2 H2 ε σ R2u hst
    · exact h2.elim
theorem se_dcm (hc : X.calm = true) (hN : X.N.Nodup) (hi : SI g W C X tg iter ci) (ok : BlkOk X.N X.env.scope scope own) (hct : ∀ j ∈ ctS t, j ∈ own.map (·.2))
    (hg : ∀ (s : Shared) (H : Hp) (D : Addr) (cl : List (Str × Addr)) (fp : List Addr), PG (X.blk s H scope (compEnvC scope cl D X.env) fp) tg (tG g t))
    (hk : ∀ (s : Shared) (H : Hp) (D : Addr) (cl : List (Str × Addr)) (fp : List Addr), SE g W0 C (X.blk s H scope (compEnvC scope cl D X.env) fp) kx ck)
    (hv : ∀ (s : Shared) (H : Hp) (D : Addr) (cl : List (Str × Addr)) (fp : List Addr), SE g W0 C (X.blk s H scope (compEnvC scope cl D X.env) fp) vx cv) (hs : ∀ x, foldedSetIterable iter X.env x = pure x) :
    SE g W C X (.DictComp kx vx [⟨tg, iter, [], 0⟩] scope pos) (.dcm m (own.map (·.2)) ck cv t ci) :=
  ⟨fun pins s σ H Q I h => (pe_dc hc hN hi ok hg (fun _ _ _ _ _ => pts0 (C := C)) hk hv hs).run pins s σ H Q I (dc_reads hct h)⟩
end
end
end WT
set_option maxRecDepth 100000
set_option autoImplicit false
/-! {k: v for .. in .. for .. in ..}: the rule, no tests in it. -/
namespace WT
noncomputable section
open PySem PySem.Spec PyProof.Rows L2

section
variable {kx vx a0 j0 a1 j1 : Expr} {sc : Scope} {ps : Pos} {it acc : Value} {D : Addr} {en : PySem.Env}
abbrev DC2 (kx vx a0 j0 a1 j1 : Expr) (sc : Scope) (ps : Pos) : Expr := .DictComp kx vx [⟨a0, j0, [], 0⟩, ⟨a1, j1, [], 0⟩] sc ps
theorem turnOut : compTurn (DC2 kx vx a0 j0 a1 j1 sc ps) 0 it acc en = (do
      standAt j0.pos
      match ← pyNext it with
      | none => pure (.done .next)
      | some u =>
        letOwnedTupleGo a0 it u
        assign a0 en u
        let mut go := true
        for c in ([] : List Expr) do
          if go then go ← PySem.isTrue c en (eval c en)
        if go then
          let y ← eval j1 en
          standAt j1.pos
          let y ← foldedSetIterable j1 en y
          let _ ← runOwn (.compStart (DC2 kx vx a0 j0 a1 j1 sc ps) 1 (← holding [y] (pyIter y)) acc en) en
        again (.compLoop (DC2 kx vx a0 j0 a1 j1 sc ps) 0 it acc en)) := by rfl
theorem turnIn : compTurn (DC2 kx vx a0 j0 a1 j1 sc ps) 1 it (.ref D) en = (do
      standAt j1.pos
      match ← pyNext it with
      | none => pure (.done .next)
      | some u =>
        letOwnedTupleGo a1 it u
        assign a1 en u
        let mut go := true
        for c in ([] : List Expr) do
          if go then go ← PySem.isTrue c en (eval c en)
        if go then
          (do
            let ku ← eval kx en
            let vu ← holding [ku] (eval vx en)
            standAt { kx.pos with endLine := vx.pos.endLine, endCol := vx.pos.endCol }
            holding [ku, vu] (dictSet D ku vu))
        again (.compLoop (DC2 kx vx a0 j0 a1 j1 sc ps) 1 it (.ref D) en)) := by rfl
variable {pg : Program} {w : World} {A : Around} {R : Result → Shared → Prop} {s : Shared}
/-- the loop of the first for -/
theorem loopOut (hs : ∀ y, foldedSetIterable j1 en y = pure y) (I : Nat → Shared → Prop)
    (st : ∀ n s, I n s → wpAny (model pg w) A (pyNext it) (fun r s1 => match r with
      | none => R (.ok .next) s1
      | some u => wpAny (model pg w) A (letOwnedTupleGo a0 it u) (fun _ s2 => wpAny (model pg w) A (assign a0 en u) (fun _ s3 => wpAny (model pg w) A (eval j1 en) (fun y s4 => wpAny (model pg w) A (pyIter y) (fun it1 s5 =>
          codeAny (model pg w) A (.compStart (DC2 kx vx a0 j0 a1 j1 sc ps) 1 it1 acc en) (fun r s' => match r with
            | .ok _ => ∃ m, m < n ∧ I m s'
            | .error _ => False) s5) (notedBy (model pg w) A en fun e s' => R (.error e) s') s4) (notedBy (model pg w) A en fun e s' => R (.error e) s') s3) (notedBy (model pg w) A en fun e s' => R (.error e) s') s2) (notedBy (model pg w) A en fun e s' => R (.error e) s') s1) (notedBy (model pg w) A en fun e s' => R (.error e) s') s)
    (n : Nat) (h : I n s) : codeAny (model pg w) A (.compLoop (DC2 kx vx a0 j0 a1 j1 sc ps) 0 it acc en) R s := by
  refine codeAny_loop rfl I (fun n s hI => ?_) n h
  show wpAny _ A ((compTurn (DC2 kx vx a0 j0 a1 j1 sc ps) 0 it acc en).onRaise (fun x => do noteFrame x en; theTreesLotGoes x)) _ _ s
  refine wpAny_noted ?_
  rw [turnOut]
  refine wpAny_bind (wpAny_standAt (wpAny_bind (wpAny_mono (st n s hI) (fun r s1 h1 => ?_) fun _ _ z => z)))
  cases r with
  | none => exact wpAny_pure h1
  | some u =>
    refine wpAny_bind (wpAny_mono h1 (fun _ s2 h2 => wpAny_bind (wpAny_mono h2 (fun _ s3 h3 => ?_) fun _ _ z => z)) fun _ _ z => z)
    refine wpAny_bind (wpAny_pure (a := true) ?_)
    refine wpAny_bind (wpAny_mono h3 (fun y s4 h4 => ?_) fun _ _ z => z)
    refine wpAny_bind (wpAny_standAt (wpAny_bind (wpAny_of_eq (hs y) (wpAny_bind (wpAny_holding (wpAny_mono h4 (fun it1 s5 h5 => ?_) fun _ _ z => z))))))
    refine wpAny_bind (wpAny_runOwn ?_)
    rw [Around.mark_none]
    refine codeAny_mono h5 fun r s' hr => ?_
    cases r with
    | ok f =>
      first
        | exact wpAny_pure ⟨rfl, hr⟩
        | exact wpAny_bind (wpAny_pure (wpAny_pure ⟨rfl, hr⟩))
    | error e => exact hr.elim
/-- the loop of the second -/
theorem loopIn (I : Nat → Shared → Prop)
    (st : ∀ n s, I n s → wpAny (model pg w) A (pyNext it) (fun r s1 => match r with
      | none => R (.ok .next) s1
      | some u => wpAny (model pg w) A (letOwnedTupleGo a1 it u) (fun _ s2 => wpAny (model pg w) A (assign a1 en u) (fun _ s3 => wpAny (model pg w) A (eval kx en) (fun ku s4 => wpAny (model pg w) A (eval vx en) (fun vu s5 =>
          wpAny (model pg w) A (dictSet D ku vu) (fun _ s6 => ∃ m, m < n ∧ I m s6) (notedBy (model pg w) A en fun e s' => R (.error e) s') s5) (notedBy (model pg w) A en fun e s' => R (.error e) s') s4) (notedBy (model pg w) A en fun e s' => R (.error e) s') s3) (notedBy (model pg w) A en fun e s' => R (.error e) s') s2) (notedBy (model pg w) A en fun e s' => R (.error e) s') s1) (notedBy (model pg w) A en fun e s' => R (.error e) s') s)
    (n : Nat) (h : I n s) : codeAny (model pg w) A (.compLoop (DC2 kx vx a0 j0 a1 j1 sc ps) 1 it (.ref D) en) R s := by
  refine codeAny_loop rfl I (fun n s hI => ?_) n h
  show wpAny _ A ((compTurn (DC2 kx vx a0 j0 a1 j1 sc ps) 1 it (.ref D) en).onRaise (fun x => do noteFrame x en; theTreesLotGoes x)) _ _ s
  refine wpAny_noted ?_
  rw [turnIn]
  refine wpAny_bind (wpAny_standAt (wpAny_bind (wpAny_mono (st n s hI) (fun r s1 h1 => ?_) fun _ _ z => z)))
  cases r with
  | none => exact wpAny_pure h1
  | some u =>
    refine wpAny_bind (wpAny_mono h1 (fun _ s2 h2 => wpAny_bind (wpAny_mono h2 (fun _ s3 h3 => ?_) fun _ _ z => z)) fun _ _ z => z)
    refine wpAny_bind (wpAny_pure (a := true) ?_)
    exact wpAny_bind (wpAny_bind (wpAny_mono h3 (fun ku s4 h4 => wpAny_bind (wpAny_holding (wpAny_mono h4 (fun vu s5 h5 => wpAny_bind (wpAny_standAt (wpAny_holding (wpAny_mono h5 (fun _ s6 h6 => wpAny_pure ⟨rfl, h6⟩) fun _ _ z => z)))) fun _ _ z => z))) fun _ _ z => z))
/-- the second for begins -/
theorem startIn (h0 : codeAny (model pg w) A (.compLoop (DC2 kx vx a0 j0 a1 j1 sc ps) 1 it acc en) R s)
    (h : wpAny (model pg w) A (pyIter it) (fun it1 s' => codeAny (model pg w) A (.compLoop (DC2 kx vx a0 j0 a1 j1 sc ps) 1 it1 acc en) R s') (notedBy (model pg w) A en fun x s' => R (.error x) s') s) :
    codeAny (model pg w) A (.compStart (DC2 kx vx a0 j0 a1 j1 sc ps) 1 it acc en) R s := by
  refine codeAny_of_tree ?_
  show wpAny _ _ ((compStart (DC2 kx vx a0 j0 a1 j1 sc ps) 1 it acc en).onRaise (fun x => do noteFrame x en; standAt theWindowsPlace)) _ _ s
  refine wpAny_notedAt ?_
  unfold compStart
  show wpAny _ _ (ask >>= _) _ _ s
  refine wpAny_bind (wpAny_askSetting (wpAny_ite ?_))
  split
  · first
      | exact wpAny_bind (wpAny_pure (wpAny_pure (And.intro rfl h0)))
      | exact wpAny_pure (And.intro rfl h0)
  · first
      | exact wpAny_bind (wpAny_rule (wpAny_bind (wpAny_standAt (wpAny_bind (wpAny_mono h (fun it1 s' z => wpAny_pure (And.intro rfl z)) fun _ _ x => x)))))
      | (refine wpAny_bind (wpAny_rule ?_); show wpAny _ _ (standAt j1.pos >>= _) _ _ s; exact wpAny_bind (wpAny_standAt (wpAny_bind (wpAny_mono h (fun it1 s' z => wpAny_pure (And.intro rfl z)) fun _ _ x => x))))
end
section
variable {X : Cx}
/-- what such a comprehension wants: vs the block's names, vs1 those of the second target -/
def tDc2 (wi : TI) (g : TG) (wi1 : TI) (g1 : TG) (tk tv : TE) (vs vs1 : List Nat) : TE := fun σ H Q => wi σ H fun J H1 => ∀ D, H1 D = none → ∃ Z : Nat → Nat → Hp → Prop, (∃ m, Z 0 m (upd H1 D (.dK []))) ∧ ∀ i m H, Z i m H →
  (J.stop i H ∧ Q (.ref D) H) ∨ (J.go i H ∧ ∃ Nx : Hp → Prop, (∀ H', Nx H' → ∃ m', m' < m ∧ Z (i + 1) m' H') ∧ ∀ x H', J.yld i H x H' → g x (wipe σ vs) H' fun σ2 H2 => wipe σ2 vs = wipe σ vs ∧
    wi1 σ2 H2 fun J1 H4 => ∃ Z1 : Nat → Nat → Hp → Prop, (∃ m, Z1 0 m H4) ∧ ∀ j k H, Z1 j k H →
      (J1.stop j H ∧ Nx H) ∨ (J1.go j H ∧ ∃ Nx1 : Hp → Prop, (∀ H', Nx1 H' → ∃ k', k' < k ∧ Z1 (j + 1) k' H') ∧ ∀ x H', J1.yld j H x H' → g1 x (wipe σ2 vs1) H' fun σ3 H5 => wipe σ3 vs1 = wipe σ2 vs1 ∧
        tk σ3 H5 fun y H6 => tv σ3 H6 fun z H7 => ∃ kvs k, y = kV k ∧ H7 D = some (.dK kvs) ∧ kvs.length < sizeLine ∧ Nx1 (upd H7 D (.dK (L2.putK kvs k z)))))
variable {kx vx tg iter tg1 iter1 : Expr} {scope : Scope} {own : List (Str × Nat)} {vs1 : List Nat} {pos : Pos} {wi wi1 : TI} {g g1 : TG} {tk tv : TE}
abbrev Bl (X : Cx) (scope : Scope) (P : Cx → Prop) : Prop := ∀ (s : Shared) (H : Hp) (C : Addr) (cl : List (Str × Addr)) (fp : List Addr), P (X.blk s H scope (compEnvC scope cl C X.env) fp)
theorem pe_dc2 (hc : X.calm = true) (hN : X.N.Nodup) (hi : PI X tg iter wi) (ok : BlkOk X.N X.env.scope scope own) (hv : ∀ i ∈ vs1, i ∈ own.map (·.2))
    (hg : Bl X scope fun Y => PG Y tg g) (hi1 : Bl X scope fun Y => PI Y tg1 iter1 wi1) (hg1 : Bl X scope fun Y => PG Y tg1 g1) (hk : Bl X scope fun Y => PE Y kx tk) (he : Bl X scope fun Y => PE Y vx tv)
    (hs : ∀ x, foldedSetIterable iter X.env x = pure x) (hs1 : ∀ en x, foldedSetIterable iter1 en x = pure x) : PE X (DC2 kx vx tg iter tg1 iter1 scope pos) (tDc2 wi g wi1 g1 tk tv (own.map (·.2)) vs1) := by
  refine ⟨fun pins s σ H Q I h => ?_⟩
  rw [arm_eval_DictComp]
  have frs : ∀ y ∈ scope.names, y.2 = .free → ∃ c, X.env.cells.lookup y.1 = some c := fun y hy e => (ok.free y hy e).elim (fun k => I.ok.has _ (.inl k)) fun k => I.ok.has _ (.inr k)
  refine wpAny_comprehension_free (use := none) rfl hs (closure_ok frs) ok.kind (fun y hy e => by rw [ok.uniq y hy, e]) (thn (hi.run pins s σ H _ I h) fun xv s1 hx => thn hx fun itv s2 h2 => ?_)
  obtain ⟨it, fp, tn, J, H2, rfl, I2, TW, st2, f2, q⟩ := h2
  refine wpAny_newObj_type (newEnv_comp ?_)
  generalize hD : s2.heap.objs.size = D
  have hDn : H2 D = none := I2.hok.fresh (Nat.le_of_eq hD)
  obtain ⟨Z, ⟨m0, z0⟩, turn⟩ := q D hDn
  -- the dict, made
  generalize hs3 : ({ s2 with heap := s2.heap.push { cls := .type "dict", data := .dict #[] } } : Shared) = s3
  have I3 : Inv X pins σ (upd H2 D (.dK [])) s3 := by
    rw [← hs3]
    refine I2.laid (t' := s2.toks) (fun b o e => Heap.get?_push_of_some _ e) (Nat.le_of_eq hD) ?_
    rw [← hD]; exact dk_empty s2.heap I2.big
  have h3 : s3.heap = s2.heap.push { cls := .type "dict", data := .dict #[] } := by rw [← hs3]
  have f3 : ∀ b ∈ fp, FpOk X pins (upd H2 D (.dK [])) b ∧ b < s3.heap.objs.size := fun b hb => by
    obtain ⟨o, e, _⟩ := TW.obj _ _ st2 b hb
    have hlt := Heap.lt_size e
    exact ⟨⟨by rw [upd_ne (by rw [← hD]; exact Nat.ne_of_lt hlt)]; exact (f2 b hb).1, (f2 b hb).2⟩, by rw [h3, Heap.size_push]; exact Nat.lt_succ_of_lt hlt⟩
  have st3 : tn 0 s3.heap := TW.keep _ _ _ st2 fun b _ o e => by rw [h3]; exact Heap.get?_push_of_some _ e
  have I4 := block_start I3 ok hN f3
  generalize hcl : cellsFrom (s3.heap.objs.size + 1) scope.names (cloFrom X.env.cells scope.names []) = cl at I4 ⊢
  have qg := hg s3 (upd H2 D (.dK [])) s3.heap.objs.size cl fp
  have qi := hi1 s3 (upd H2 D (.dK [])) s3.heap.objs.size cl fp
  have qg1 := hg1 s3 (upd H2 D (.dK [])) s3.heap.objs.size cl fp
  have qk := hk s3 (upd H2 D (.dK [])) s3.heap.objs.size cl fp
  have qe := he s3 (upd H2 D (.dK [])) s3.heap.objs.size cl fp
  show codeAny _ _ (.compStart (DC2 kx vx tg iter tg1 iter1 scope pos) 0 (.ref it) (.ref D) (compEnvC scope cl s3.heap.objs.size X.env)) (compPost (model X.prog X.w) X.A X.xe none (EP X pins σ Q) (.ref D) s3.heap.objs.size) { s3 with heap := pushCells (s3.heap.push { cls := .type "dict", data := .dict #[] }) scope.names }
  have nfp : ∀ b ∈ fp, (upd H2 D (.dK [])) b = none := fun b hb => (f3 b hb).1.1
  generalize hce : compEnvC scope cl s3.heap.objs.size X.env = ce at I4 qg qi qg1 qk qe ⊢
  have cL : ce.locals = s3.heap.objs.size := by subst hce; rfl
  generalize hH3 : upd H2 D (.dK []) = H3 at I3 I4 qg qi qg1 qk qe z0 nfp f3
  generalize hs4 : ({ s3 with heap := pushCells (s3.heap.push { cls := .type "dict", data := .dict #[] }) scope.names } : Shared) = s4 at I4 ⊢
  have st4 : tn 0 s4.heap := TW.keep _ _ _ st3 fun b _ o e => by rw [← hs4]; exact pushCells_keeps _ _ _ _ (Heap.get?_push_of_some _ e)
  have fpo : ∀ {σ' : L2.St} {H' : Hp} {s' : Shared}, Inv (X.blk s3 H3 scope ce fp) [] σ' H' s' → (∀ b ∈ fp, H' b = none) → ∀ b ∈ fp, FpOk (X.blk s3 H3 scope ce fp) [] H' b := fun {σ' H' s'} I' hn b hb =>
    ⟨hn b hb, (I'.ok.exf b hb).1, I'.ok.exfs b hb, .inl hb, fun x c e => (I'.ok.exf b hb).2 x c e, fun p hp => absurd (show p ∈ ([] : List (Addr × Obj)) ++ [] from hp) (by simp)⟩
  have whole : codeAny (model X.prog X.w) X.A (.compLoop (DC2 kx vx tg iter tg1 iter1 scope pos) 0 (.ref it) (.ref D) ce) (compPost (model X.prog X.w) X.A X.xe none (EP X pins σ Q) (.ref D) s3.heap.objs.size) s4 := by
    refine loopOut (hs1 ce) (fun n s' => ∃ i H', Inv (X.blk s3 H3 scope ce fp) [] (wipe σ (own.map (·.2))) H' s' ∧ tn i s'.heap ∧ (∀ b ∈ fp, H' b = none) ∧ Z i n H') ?_ m0 ⟨0, H3, I4, st4, nfp, z0⟩
    rintro n s5 ⟨i, H5, I5, st5, n5, z5⟩
    rcases turn i n H5 z5 with ⟨stop, qq⟩ | ⟨go, Nx, hNx, step⟩
    · refine thnF (TW.done (X.blk s3 H3 scope ce fp) rfl rfl rfl hc i [] s5 _ H5 (fun _ _ => False) I5 (fpo I5 n5) st5 stop) fun r s6 ⟨hr, I6⟩ => ?_
      subst hr
      have I7 : Inv X pins σ H5 s6 := I3.call' (ch := fp) I6.os I6.base I6.hok I6.bare fun b hb => ⟨(f3 b hb).1.2.2.2.1, (f3 b hb).1.2.1, (f3 b hb).1.2.2.2.2.1, (f3 b hb).1.2.2.2.2.2⟩
      have nC : H5 s3.heap.objs.size = none := by rw [← cL]; exact I6.free
      obtain ⟨m, hn, _⟩ := I6.loc
      have hn : s6.heap.Ns s3.heap.objs.size m := by rw [← cL]; exact hn
      obtain ⟨f0, f1, f2', f3', f4, f5⟩ := I3.fpOk (b := s3.heap.objs.size) (Nat.le_refl _) nC
      exact ⟨m, hn, fun h2 sb => ⟨.ref D, H5, I7.turned (t' := s6.toks) (fun b o hb e => (sb.2 b hb).trans e) f0 f1 f3' f4 f5, rfl, qq⟩⟩
    · refine thnF (TW.item (X.blk s3 H3 scope ce fp) rfl rfl rfl hc i [] s5 _ H5 (fun _ _ => False) I5 (fpo I5 n5) st5 go) fun r s6 ⟨u, hr, h6⟩ => ?_
      subst hr
      refine thnF h6 fun _ s7 ⟨x, H7, I7, r7, y7, st7, n7⟩ => ?_
      have J7 := I7.pinned (fpo I7 n7) (TW.obj _ _ st7)
      refine thnF (qg.run _ s7 _ H7 x u _ J7 r7 (step x H7 y7)) fun _ s8 ⟨σ8, H8, I8, hw, q8⟩ => ?_
      have len8 : (wipe σ (own.map (·.2))).length = (wipe σ8 vs1).length := by rw [← hw, wipe_length, wipe_length]
      have keep8 : ∀ (j : Nat) v, (wipe σ (own.map (·.2)))[j]? = some (some v) → (wipe σ8 vs1)[j]? = some (some v) := fun j v e => by
        rw [← hw] at e
        obtain ⟨e1, e2⟩ := wipe_some e
        rw [L2.wipe_out fun z => e2 (hv j z)]
        exact e1
      -- behind a turn of the first for
      have out : ∀ {s' : Shared} {H' : Hp}, Inv (X.blk s3 H3 scope ce fp) ([] ++ pinsAt fp s7.heap) (wipe σ8 vs1) H' s' → Nx H' → ∃ m, m < n ∧ ∃ i H', Inv (X.blk s3 H3 scope ce fp) [] (wipe σ (own.map (·.2))) H' s' ∧ tn i s'.heap ∧ (∀ b ∈ fp, H' b = none) ∧ Z i m H' := fun {s' H'} I' nx => by
        obtain ⟨m', hm, z'⟩ := hNx H' nx
        have stay : ∀ b ∈ fp, ∀ o, s7.heap.get? b = some o → s'.heap.get? b = some o ∧ H' b = none := fun b hb o e => by
          obtain ⟨k1, k2, _⟩ := I'.pin (b, o) (List.mem_append_right _ (List.mem_append_right _ (mem_pinsAt hb e)))
          exact ⟨k1, k2⟩
        refine ⟨m', hm, i + 1, H', (I'.unpinned (pins := [])).weak len8 keep8, TW.keep _ _ _ st7 fun b hb o e => (stay b hb o e).1, fun b hb => ?_, z'⟩
        obtain ⟨o, e, _⟩ := TW.obj _ _ st7 b hb
        exact (stay b hb o e).2
      refine thnF (qi.run _ s8 σ8 H8 _ I8 q8) fun xv s10 hx => thnF hx fun itv s11 h11 => ?_
      obtain ⟨it1, fp1, tn1, J1, H11, rfl, I11, TW1, st11, f11, Z1, ⟨m1, z1⟩, turn1⟩ := h11
      have fpo1 : ∀ {H' : Hp}, (∀ b ∈ fp1, H' b = none) → ∀ b ∈ fp1, FpOk (X.blk s3 H3 scope ce fp) ([] ++ pinsAt fp s7.heap) H' b := fun hn b hb => ⟨hn b hb, (f11 b hb).2⟩
      have inner : codeAny (model X.prog X.w) X.A (.compLoop (DC2 kx vx tg iter tg1 iter1 scope pos) 1 (.ref it1) (.ref D) ce)
          (fun r s' => match r with
            | .ok _ => ∃ m, m < n ∧ ∃ i H', Inv (X.blk s3 H3 scope ce fp) [] (wipe σ (own.map (·.2))) H' s' ∧ tn i s'.heap ∧ (∀ b ∈ fp, H' b = none) ∧ Z i m H'
            | .error _ => False) s11 := by
        refine loopIn (fun k s' => ∃ j H', Inv (X.blk s3 H3 scope ce fp) ([] ++ pinsAt fp s7.heap) (wipe σ8 vs1) H' s' ∧ tn1 j s'.heap ∧ (∀ b ∈ fp1, H' b = none) ∧ Z1 j k H') ?_ m1 ⟨0, H11, I11.weak (wipe_length _ _) (fun j v e => (wipe_some e).1), st11, fun b hb => (f11 b hb).1, z1⟩
        rintro k s12 ⟨j, H12, I12, st12, n12, z12⟩
        rcases turn1 j k H12 z12 with ⟨stop1, nx1⟩ | ⟨go1, Nx1, hNx1, step1⟩
        · refine thnF (TW1.done (X.blk s3 H3 scope ce fp) rfl rfl rfl hc j _ s12 (wipe σ8 vs1) H12 (fun _ _ => False) I12 (fpo1 n12) st12 stop1) fun r s13 ⟨hr, I13⟩ => ?_
          subst hr
          exact out I13 nx1
        · refine thnF (TW1.item (X.blk s3 H3 scope ce fp) rfl rfl rfl hc j _ s12 (wipe σ8 vs1) H12 (fun _ _ => False) I12 (fpo1 n12) st12 go1) fun r s13 ⟨u1, hr, h13⟩ => ?_
          subst hr
          refine thnF h13 fun _ s14 ⟨x1, H14, I14, r14, y14, st14, n14⟩ => ?_
          have J14 := I14.pinned (fpo1 n14) (TW1.obj _ _ st14)
          refine thnF (qg1.run _ s14 (wipe σ8 vs1) H14 x1 u1 _ J14 r14 (step1 x1 H14 y14)) fun _ s15 ⟨σ15, H15, I15, hw15, q15⟩ => ?_
          refine thnF (qk.run _ s15 σ15 H15 _ I15 q15) fun ku s16 ⟨yk, H16, I16, r16, q16⟩ => ?_
          refine thnF (qe.run _ s16 σ15 H16 _ I16 q16) fun vu s17 ⟨yv, H17, I17, r17, kvs, key, ek, hD17, hz17, nx⟩ => ?_
          subst ek
          refine d_dictSet (X := X.blk s3 H3 scope ce fp) I17 hD17 hz17 r16 r17 fun s18 I18 => ?_
          obtain ⟨m', hm, z'⟩ := hNx1 _ nx
          have stay : ∀ b ∈ fp1, ∀ o, s14.heap.get? b = some o → s18.heap.get? b = some o ∧ (upd H17 D (.dK (L2.putK kvs key yv))) b = none := fun b hb o e => by
            obtain ⟨k1, k2, _⟩ := I18.pin (b, o) (List.mem_append_right _ (List.mem_append_right _ (mem_pinsAt hb e)))
            exact ⟨k1, k2⟩
          refine ⟨m', hm, j + 1, _, I18.unpinned.weak (by rw [← hw15, wipe_length]) (fun j v e => by rw [← hw15] at e; exact (wipe_some e).1), TW1.keep _ _ _ st14 fun b hb o e => (stay b hb o e).1, fun b hb => ?_, z'⟩
          obtain ⟨o, e, _⟩ := TW1.obj _ _ st14 b hb
          exact (stay b hb o e).2
      exact startIn inner (TW1.self X.A 0 _ _ _ st11 inner)
  exact codeAny_compStart_dict whole (TW.self X.A 0 _ _ _ st4 whole)
end
section
variable {g : Gx} {W : WX} {C : Ctx} {X : Cx} {kx vx tg iter tg1 iter1 : Expr} {scope : Scope} {own : List (Str × Nat)} {pos : Pos} {t t1 : CT} {ci ci1 : CI} {ck cv : CE} {m : Bool}
abbrev dcRest2 (C : Ctx) (own own1 : List Nat) (t t1 : CT) (ci1 : CI) (ck cv : CE) (m : Bool) (its : Items) (ε : WT.Env) (M1 : Mem) (r : List PV) (M : Mem) : Res PV :=
  (dcLoop2 own own1 t t1 (fun ε M => evi C ci1 ε M) (fun ε M => ev C ck ε M) (fun ε M => ev C cv ε M) its.2 ε M1.length r M).bind fun _ M' => dcEnd m M1 M'
theorem dc2_reads {σ : SS} {own own1 : List Nat} {H : Hp} {Q : VK} (hct : ∀ j ∈ ctS t, j ∈ own) (hct1 : ∀ j ∈ ctS t1, j ∈ own1) (h : tR g W (ev C (.dcm2 m own own1 ck cv t ci t1 ci1)) σ H Q) :
    tDc2 (tI g W (evi C ci)) (tG g t) (tI g W0 (evi C ci1)) (tG g t1) (tR g W0 (ev C ck)) (tR g W0 (ev C cv)) own own1 σ H Q := by
  obtain ⟨ρ, M, ε, T, R, h⟩ := h
  have h : resW g W ((evi C ci ε M).bind fun its M => dcRest2 C own own1 t t1 ci1 ck cv m its ε M its.1 (M ++ [.dic []])) ε T σ (EndQ g Q) := h
  refine ⟨ρ, M, ε, T, R, h.bind.imp fun its ρ1 M1 H1 R1 h1 J T' hT R1' rel D hD => ?_⟩
  have h1 := h1.more hT
  have Rn := R1'.new (c := .dic []) (o := .dK []) hD ⟨Nat.zero_le _, [], upd_same, by unfold RVd; rfl⟩
  have hn : (ρ1 ++ [D])[M1.length]? = some D := by rw [← R1'.len]; simp
  have refD : ∀ {ρ : List Addr} {M : Mem} {H : Hp}, ρ[M1.length]? = some D → RV g ρ M H (.ref M1.length) (.ref D) := fun h => by
    unfold RV
    exact ⟨D, rfl, h⟩
  have atD : ∀ {ρ : List Addr} {M : Mem} {H : Hp}, RV g ρ M H (.ref M1.length) (.ref D) → ρ[M1.length]? = some D := fun h => by
    unfold RV at h
    obtain ⟨a, e, h⟩ := h
    cases e
    exact h
  generalize hTb : (PV.ref M1.length, V.ref D) :: (slots ε σ ++ T') = Tb
  have mD : (PV.ref M1.length, V.ref D) ∈ Tb := hTb ▸ List.mem_cons_self
  have mS : ∀ q ∈ slots ε σ ++ T', q ∈ Tb := fun q hq => hTb ▸ List.mem_cons_of_mem _ hq
  have back : ∀ {ρ : List Addr} {M : Mem} {H : Hp}, Rl g ρ M H [] Tb [] → Rl g ρ M H ε T' σ := fun R => R1'.unpack (R.weak mS)
  have toB : ∀ {ρ : List Addr} {M : Mem} {H : Hp}, Rl g ρ M H ε T' σ → ρ[M1.length]? = some D → ∀ q ∈ Tb, RV g ρ M H q.1 q.2 := fun R hr q hq => by
    subst hTb
    rcases List.mem_cons.mp hq with rfl | hq
    · exact refD hr
    · exact R.allT q hq
  refine ⟨fun i k H => ∃ ρ M, Rl g ρ M H [] Tb [] ∧ i + k = its.1.length ∧ resW g W (dcRest2 C own own1 t t1 ci1 ck cv m its ε M1 (its.1.drop i) M) ε T' σ (EndQ g Q),
    ⟨its.1.length, ρ1 ++ [D], M1 ++ [Cell.dic []], (Rn.withT (toB Rn hn)).blank [], by omega, h1⟩, fun i k H2 ⟨ρ2, M2, R2, hik, h2⟩ => ?_⟩
  have hD2 := atD (R2.tmp _ mD)
  have R2u := back R2
  by_cases hi : i < its.1.length
  · have ed : its.1.drop i = its.1[i] :: its.1.drop (i + 1) := List.drop_eq_getElem_cons hi
    rw [ed] at h2
    have h2 : resW g W ((match still its.2 M2, bindT t its.1[i] (wipeE ε own) M2 with
      | true, some ε1 => (match evi C ci1 ε1 M2 with
        | .ok its1 M3 => (dcLoop own1 t1 (fun ε M => ev C ck ε M) (fun ε M => ev C cv ε M) its1.2 ε1 M1.length its1.1 M3).bind fun _ M4 => dcLoop2 own own1 t t1 (fun ε M => evi C ci1 ε M) (fun ε M => ev C ck ε M) (fun ε M => ev C cv ε M) its.2 ε M1.length (its.1.drop (i + 1)) M4
        | _ => .stuck)
      | _, _ => .stuck).bind fun _ M' => dcEnd m M1 M') ε T' σ (EndQ g Q) := h2
    split at h2
    · rename_i ε1 hst hbd
      obtain ⟨go, yl⟩ := rel.go i its.1[i] ρ2 M2 H2 ε σ R2u hst (List.getElem?_eq_getElem hi)
      refine .inr ⟨go, fun H' => ∃ ρ M, Rl g ρ M H' [] Tb [] ∧ resW g W (dcRest2 C own own1 t t1 ci1 ck cv m its ε M1 (its.1.drop (i + 1)) M) ε T' σ (EndQ g Q), fun H' ⟨ρ, M, R, h⟩ => ⟨k - 1, by omega, ρ, M, R, by omega, h⟩, fun x H' hy => ?_⟩
      have R3 := yl x H' hy
      have R4 : Rl g ρ2 M2 H' (wipeE ε own) ((its.1[i], x) :: Tb) (wipe σ own) := (R3.wipe own).withT fun q hq => by
        rcases List.mem_cons.mp hq with rfl | hq
        · exact R3.head
        · exact toB R3.tail hD2 q hq
      refine ⟨ρ2, M2, _, _, its.1[i], ε1, R4, R4.head, hbd, fun σ2 R5 ag => ⟨wipe_agr ag hct, ρ2, M2, ε1, Tb, R5.tail, ?_⟩⟩
      cases e1 : evi C ci1 ε1 M2 with
      | ok its1 M3 =>
        simp only [e1] at h2
        rw [bind_bind] at h2
        intro ρ3 H3 R6 J1 T2 hT2 R7 rel1
        have mD2 : (PV.ref M1.length, V.ref D) ∈ slots ε1 σ2 ++ T2 := List.mem_append_right _ (hT2 _ mD)
        refine ⟨fun j k H => ∃ ρ M, Rl g ρ M H [] (slots ε1 σ2 ++ T2) [] ∧ j + k = its1.1.length ∧ resW g W ((dcLoop own1 t1 (fun ε M => ev C ck ε M) (fun ε M => ev C cv ε M) its1.2 ε1 M1.length (its1.1.drop j) M).bind fun _ M4 => dcRest2 C own own1 t t1 ci1 ck cv m its ε M1 (its.1.drop (i + 1)) M4) ε T' σ (EndQ g Q),
          ⟨its1.1.length, ρ3, M3, (R7.withT R7.allT).blank [], by omega, h2⟩, fun j k H8 ⟨ρ8, M8, R8, hjk, h8⟩ => ?_⟩
        have R8u := R7.unpack R8
        by_cases hj : j < its1.1.length
        · have ed1 : its1.1.drop j = its1.1[j] :: its1.1.drop (j + 1) := List.drop_eq_getElem_cons hj
          rw [ed1] at h8
          have h8 : resW g W ((match still its1.2 M8, bindT t1 its1.1[j] (wipeE ε1 own1) M8 with
            | true, some ε2 => (match ev C ck ε2 M8 with
              | .ok k M1' => (match ev C cv ε2 M1' with
                | .ok v M3 => (match putD M1.length k v M3 with
                  | some M4 => dcLoop own1 t1 (fun ε M => ev C ck ε M) (fun ε M => ev C cv ε M) its1.2 ε1 M1.length (its1.1.drop (j + 1)) M4
                  | none => .stuck)
                | _ => .stuck)
              | _ => .stuck)
            | _, _ => .stuck).bind fun _ M4 => dcRest2 C own own1 t t1 ci1 ck cv m its ε M1 (its.1.drop (i + 1)) M4) ε T' σ (EndQ g Q) := h8
          split at h8
          · rename_i ε2 hst1 hbd1
            obtain ⟨go1, yl1⟩ := rel1.go j its1.1[j] ρ8 M8 H8 ε1 σ2 R8u hst1 (List.getElem?_eq_getElem hj)
            refine .inr ⟨go1, fun H' => ∃ ρ M, Rl g ρ M H' [] (slots ε1 σ2 ++ T2) [] ∧ resW g W ((dcLoop own1 t1 (fun ε M => ev C ck ε M) (fun ε M => ev C cv ε M) its1.2 ε1 M1.length (its1.1.drop (j + 1)) M).bind fun _ M4 => dcRest2 C own own1 t t1 ci1 ck cv m its ε M1 (its.1.drop (i + 1)) M4) ε T' σ (EndQ g Q), fun H' ⟨ρ, M, R, h⟩ => ⟨k - 1, by omega, ρ, M, R, by omega, h⟩, fun x1 H9 hy1 => ?_⟩
            have R9 := yl1 x1 H9 hy1
            have R10 : Rl g ρ8 M8 H9 (wipeE ε1 own1) ((its1.1[j], x1) :: (slots ε1 σ2 ++ T2)) (wipe σ2 own1) := (R9.wipe own1).withT fun q hq => by
              rcases List.mem_cons.mp hq with rfl | hq
              · exact R9.head
              · exact R9.tail.allT q hq
            refine ⟨ρ8, M8, _, _, its1.1[j], ε2, R10, R10.head, hbd1, fun σ3 R11 ag1 => ⟨wipe_agr ag1 hct1, ?_⟩⟩
            exact dcElt (W := W) (Nx := fun H' => ∃ ρ M, Rl g ρ M H' [] (slots ε1 σ2 ++ T2) [] ∧ resW g W ((dcLoop own1 t1 (fun ε M => ev C ck ε M) (fun ε M => ev C cv ε M) its1.2 ε1 M1.length (its1.1.drop (j + 1)) M).bind fun _ M4 => dcRest2 C own own1 t t1 ci1 ck cv m its ε M1 (its.1.drop (i + 1)) M4) ε T' σ (EndQ g Q)) mD2 R11.tail h8 fun ρ M3 H3 R h => ⟨ρ, M3, R, h⟩
          · exact h8.elim
        · have ed1 : its1.1.drop j = [] := List.drop_eq_nil_of_le (by omega)
          rw [ed1] at h8
          have h8 : resW g W ((match still its1.2 M8 with
            | true => Res.ok () M8
            | false => .stuck).bind fun _ M4 => dcRest2 C own own1 t t1 ci1 ck cv m its ε M1 (its.1.drop (i + 1)) M4) ε T' σ (EndQ g Q) := h8
          split at h8
          · rename_i hst1
            refine .inl ⟨?_, ρ8, M8, R8.weak fun q hq => List.mem_append_right _ (hT2 q hq), h8⟩
            have ej : j = its1.1.length := by omega
            rw [ej]
            exact rel1.stop ρ8 M8 H8 ε1 σ2 R8u hst1
          · exact h8.elim
      | err e M3 => simp only [e1] at h2; exact h2.elim
      | stuck => simp only [e1] at h2; exact h2.elim
    · exact h2.elim
  · have ed : its.1.drop i = [] := List.drop_eq_nil_of_le (by omega)
    rw [ed] at h2
    have h2 : resW g W ((match still its.2 M2 with
      | true => Res.ok () M2
      | false => .stuck).bind fun _ M' => dcEnd m M1 M') ε T' σ (EndQ g Q) := h2
    split at h2
    · rename_i hst
      refine .inl ⟨?_, dcEnd_of R1' R2u hD2 h2⟩
      have ei : i = its.1.length := by omega
      rw [ei]
      exact rel.stop ρ2 M2 H2 ε σ R2u hst
    · exact h2.elim
theorem se_dcm2 {own1 : List Nat} (hc : X.calm = true) (hN : X.N.Nodup) (hi : SI g W C X tg iter ci) (ok : BlkOk X.N X.env.scope scope own) (hv1 : ∀ i ∈ own1, i ∈ own.map (·.2)) (hct : ∀ j ∈ ctS t, j ∈ own.map (·.2)) (hct1 : ∀ j ∈ ctS t1, j ∈ own1)
    (hg : Bl X scope fun Y => PG Y tg (tG g t)) (hi1 : Bl X scope fun Y => SI g W0 C Y tg1 iter1 ci1) (hg1 : Bl X scope fun Y => PG Y tg1 (tG g t1)) (hk : Bl X scope fun Y => SE g W0 C Y kx ck) (hv : Bl X scope fun Y => SE g W0 C Y vx cv)
    (hs : ∀ x, foldedSetIterable iter X.env x = pure x) (hs1 : ∀ en x, foldedSetIterable iter1 en x = pure x) : SE g W C X (DC2 kx vx tg iter tg1 iter1 scope pos) (.dcm2 m (own.map (·.2)) own1 ck cv t ci t1 ci1) :=
  ⟨fun pins s σ H Q I h => (pe_dc2 hc hN hi ok hv1 hg hi1 hg1 hk hv hs hs1).run pins s σ H Q I (dc2_reads hct hct1 h)⟩
end
end
end WT
set_option maxRecDepth 100000
set_option autoImplicit false
/-! What is never reached; sorted; own operators. -/
namespace WT
noncomputable section
open PySem PySem.Spec PyProof.Rows L2

section
variable {T : Tb} {g : Gx} {W : WX} {C : Ctx} {X : Cx} {a b e o : Expr} {es : List Expr} {x : Str} {p pos : Pos} {ca cb ce co : CE} {cs : List CE} {m : Bool}
theorem x_no : SE g W C X e .no := ⟨fun pins s σ H Q I ⟨ρ, M, ε, T, R, h⟩ => h.elim⟩
theorem y_no {st : Stmt} : SS1 g W C X st .no := ⟨fun pins s σ H D I ⟨ρ, M, ε, T, R, h⟩ => h.elim⟩
/-! ### sorted -/
theorem cps_ext {x y : Str} (h : cps x = cps y) : x = y := by
  obtain ⟨x⟩ := x
  obtain ⟨y⟩ := y
  have h : x.toList = y.toList := h
  rw [Array.toList_inj.mp h]
def leS (x y : Str) : Prop := ¬ cps y < cps x
theorem leS_trans {x y z : Str} (h1 : leS x y) (h2 : leS y z) : leS x z := List.le_trans (α := Nat) h1 h2
theorem leS_anti {x y : Str} (h1 : leS x y) (h2 : leS y x) : x = y := cps_ext (List.le_antisymm (α := Nat) h1 h2)
theorem leS_total {x y : Str} (h : ¬ leS x y) : leS y x := fun h2 => h fun h1 => List.lt_asymm (α := Nat) h1 h2
theorem rising_le : ∀ {ys : List Str} {p : Str}, risingS p ys = true → (∀ y ∈ ys, leS p y) ∧ ys.Pairwise leS
  | [], p, _ => ⟨fun y h => (by cases h), List.Pairwise.nil⟩
  | y :: r, p, h => by
    have h : (!PySem.Spec.ltCps y.cps.toList p.cps.toList && risingS y r) = true := h
    rw [Bool.and_eq_true, Bool.not_eq_true', ltCps_eq] at h
    have hp : leS p y := of_decide_eq_false h.1
    obtain ⟨h1, h2⟩ := rising_le h.2
    exact ⟨fun z hz => by
      rcases List.mem_cons.mp hz with rfl | hz
      · exact hp
      · exact leS_trans hp (h1 z hz), .cons h1 h2⟩
theorem sortedS_le : ∀ {ys : List Str}, sortedS ys = true → ys.Pairwise leS
  | [], _ => .nil
  | y :: r, h => .cons (rising_le h).1 (rising_le h).2
theorem insertS_perm (x : Str) : ∀ ys : List Str, (insertS x ys).Perm (x :: ys)
  | [] => .refl _
  | y :: r => by
    show (if cps y < cps x then y :: insertS x r else x :: y :: r).Perm _
    split
    · exact ((insertS_perm x r).cons y).trans (.swap x y r)
    · exact .refl _
theorem insertS_le (x : Str) : ∀ {ys : List Str}, ys.Pairwise leS → (insertS x ys).Pairwise leS
  | [], _ => .cons (fun _ h => (by cases h)) .nil
  | y :: r, h => by
    obtain ⟨h1, h2⟩ := List.pairwise_cons.mp h
    show (if cps y < cps x then y :: insertS x r else x :: y :: r).Pairwise leS
    split
    · rename_i hl
      refine .cons (fun z hz => ?_) (insertS_le x h2)
      rcases List.mem_cons.mp ((insertS_perm x r).mem_iff.mp hz) with rfl | hz
      · exact fun h' => List.lt_asymm (α := Nat) hl h'
      · exact h1 z hz
    · rename_i hl
      refine .cons (fun z hz => ?_) h
      rcases List.mem_cons.mp hz with rfl | hz
      · exact hl
      · exact leS_trans hl (h1 z hz)
theorem sortS_perm : ∀ xs : List Str, (sortS xs).Perm xs
  | [] => .refl _
  | x :: r => (insertS_perm x (sortS r)).trans ((sortS_perm r).cons x)
theorem sortS_le : ∀ xs : List Str, (sortS xs).Pairwise leS
  | [] => .nil
  | x :: r => insertS_le x (sortS_le r)
theorem perm_eq {α : Type} {r : α → α → Prop} (anti : ∀ x y, r x y → r y x → x = y) : ∀ {xs ys : List α}, xs.Perm ys → xs.Pairwise r → ys.Pairwise r → xs = ys
  | [], ys, h, _, _ => by rw [h.nil_eq]
  | x :: xs, [], h, _, _ => by cases h.length_eq
  | x :: xs, y :: ys, h, h1, h2 => by
    obtain ⟨a1, a2⟩ := List.pairwise_cons.mp h1
    obtain ⟨b1, b2⟩ := List.pairwise_cons.mp h2
    have e : x = y := by
      rcases List.mem_cons.mp (h.mem_iff.mp (List.mem_cons_self (a := x))) with e | hx
      · exact e
      · rcases List.mem_cons.mp (h.mem_iff.mpr (List.mem_cons_self (a := y))) with e | hy
        · exact e.symm
        · exact anti x y (a1 y hy) (b1 x hx)
    subst e
    rw [perm_eq anti (List.perm_cons x |>.mp h) a2 b2]
theorem sortS_of {xs ys : List Str} (h : ys.Perm xs) (hs : sortedS ys = true) : ys = sortS xs :=
  perm_eq (r := leS) (fun _ _ => leS_anti) (h.trans (sortS_perm xs).symm) (sortedS_le hs) (sortS_le xs)
theorem insertI_perm (x : Int) : ∀ ys : List Int, (insertI x ys).Perm (x :: ys)
  | [] => .refl _
  | y :: r => by
    show (if y < x then y :: insertI x r else x :: y :: r).Perm _
    split
    · exact ((insertI_perm x r).cons y).trans (.swap x y r)
    · exact .refl _
theorem insertI_le (x : Int) : ∀ {ys : List Int}, ys.Pairwise (· ≤ ·) → (insertI x ys).Pairwise (· ≤ ·)
  | [], _ => .cons (fun _ h => (by cases h)) .nil
  | y :: r, h => by
    obtain ⟨h1, h2⟩ := List.pairwise_cons.mp h
    show (if y < x then y :: insertI x r else x :: y :: r).Pairwise (· ≤ ·)
    split
    · rename_i hl
      refine .cons (fun z hz => ?_) (insertI_le x h2)
      rcases List.mem_cons.mp ((insertI_perm x r).mem_iff.mp hz) with rfl | hz
      · exact Int.le_of_lt hl
      · exact h1 z hz
    · rename_i hl
      refine .cons (fun z hz => ?_) h
      rcases List.mem_cons.mp hz with rfl | hz
      · omega
      · have := h1 z hz
        omega
theorem sortI_perm : ∀ xs : List Int, (sortI xs).Perm xs
  | [] => .refl _
  | x :: r => (insertI_perm x (sortI r)).trans ((sortI_perm r).cons x)
theorem sortI_le : ∀ xs : List Int, (sortI xs).Pairwise (· ≤ ·)
  | [] => .nil
  | x :: r => insertI_le x (sortI_le r)
theorem sortI_of {xs ys : List Int} (h : ys.Perm xs) (hs : ys.Pairwise (· ≤ ·)) : ys = sortI xs :=
  perm_eq (r := fun x y : Int => x ≤ y) (fun _ _ h1 h2 => Int.le_antisymm h1 h2) (h.trans (sortI_perm xs).symm) hs (sortI_le xs)
theorem lstOf_rd {M : Mem} {q : PV} {xs : List PV} (h : lstOf M q = some xs) : rd M q = .lst xs := by
  unfold lstOf at h
  split at h
  · rename_i ys e
    cases h
    exact e
  · cases h
theorem ints_V {ρ : List Addr} {M : Mem} {H : Hp} : ∀ {ps : List PV} {vs : List V} {xs : List Int}, intsOf ps = some xs → RVs g ρ M H ps vs → vs = xs.map V.int ∧ ps.length = xs.length
  | [], vs, xs, e, h => by
    cases e
    unfold RVs at h
    exact ⟨h, rfl⟩
  | q :: r, vs, xs, e, h => by
    unfold RVs at h
    obtain ⟨v, s, rfl, hq, hr⟩ := h
    cases q with
    | int i =>
      have e : (intsOf r).map (i :: ·) = some xs := e
      obtain ⟨l, el, rfl⟩ := Option.map_eq_some_iff.mp e
      obtain ⟨h1, h2⟩ := ints_V el hr
      rw [hq.int, h1]
      exact ⟨rfl, by simp [h2]⟩
    | _ => cases e
theorem RVs.ofInts {ρ : List Addr} {M : Mem} {H : Hp} : ∀ {xs : List Int}, RVs g ρ M H (xs.map PV.int) (xs.map V.int)
  | [] => by unfold RVs; rfl
  | x :: r => by
    have := RVs.ofInts (ρ := ρ) (M := M) (H := H) (xs := r)
    exact .cons (.ofInt x) this
theorem strs_len {ρ : List Addr} {M : Mem} {H : Hp} : ∀ {ps : List PV} {vs : List V} {xs : List Str}, strsOf ps = some xs → RVs g ρ M H ps vs → ∀ x ∈ xs, x.length ≤ sizeLine
  | [], vs, xs, e, h => by
    cases e
    exact fun x hx => by cases hx
  | q :: r, vs, xs, e, h => by
    unfold RVs at h
    obtain ⟨v, s, rfl, hq, hr⟩ := h
    cases q with
    | str z =>
      have e : (strsOf r).map (z :: ·) = some xs := e
      obtain ⟨l, el, rfl⟩ := Option.map_eq_some_iff.mp e
      intro x hx
      rcases List.mem_cons.mp hx with rfl | hx
      · exact hq.str.2
      · exact strs_len el hr x hx
    | _ => cases e
theorem b_sorted (hK : X.K = g.K) : CallR X (.builtin "sorted") (rBf g .sortedOf m) := by
  intro pins s σ0 H vs us Q I r ⟨W, ρ, M, ε, T, σ, ps, R, hv, h⟩
  obtain ⟨q, v, rfl, rfl, hp⟩ := arg1 hv h fun qs hq => match qs, hq with
    | [], _ => rfl
    | [_], hq => absurd rfl hq
    | p :: _ :: _, _ => by cases p <;> rfl
  have h : resW g W (match (lstOf M q).bind strsOf with
    | some ns => guard (decide (ns.length < 64)) (mkL m ((sortS ns).map .str) M)
    | none => (match (lstOf M q).bind intsOf with
      | some ns => mkL m ((sortI ns).map .int) M
      | none => .stuck)) ε T σ (EndQ g Q) := h
  split at h
  · rename_i ns e
    obtain ⟨xs, e1, e2⟩ := Option.bind_eq_some_iff.mp e
    obtain ⟨hlt, h⟩ := guard_ok h
    have hlt := of_decide_eq_true hlt
    obtain ⟨hz, a1, ws, rfl, sq, rr⟩ := R.listAt hp (lstOf_rd e1)
    obtain ⟨rfl, hl⟩ := strs_V e2 rr
    have hb := strs_len e2 rr
    refine cr_sortedS pins s σ0 H _ us Q I r ⟨a1, ns, rfl, hK ▸ sq.sq, hlt, fun ys l hy hs hn => ?_⟩
    rw [sortS_of hy hs]
    have hlen : (sortS ns).length ≤ sizeLine := by rw [(sortS_perm ns).length_eq, ← hl]; exact hz
    exact mkL_ok R (by rw [List.length_map]; exact hlen) (RVs.ofStrs fun x hx => hb x ((sortS_perm ns).mem_iff.mp hx)) hn h
  · split at h
    · rename_i ns e
      obtain ⟨xs, e1, e2⟩ := Option.bind_eq_some_iff.mp e
      obtain ⟨hz, a1, ws, rfl, sq, rr⟩ := R.listAt hp (lstOf_rd e1)
      obtain ⟨rfl, hl⟩ := ints_V e2 rr
      refine cr_sortedI pins s σ0 H _ us Q I r ⟨a1, ns, rfl, hK ▸ sq.sq, fun ys l hy hs hn => ?_⟩
      rw [sortI_of hy hs]
      have hlen : (sortI ns).length ≤ sizeLine := by rw [(sortI_perm ns).length_eq, ← hl]; exact hz
      exact mkL_ok R (by rw [List.length_map]; exact hlen) RVs.ofInts hn h
    · exact h.elim
end
end
end WT
set_option maxRecDepth 100000
set_option autoImplicit false
/-! Own operators: -x, x + y, x ^ y, x << ys, x[i], len(x). -/
namespace WT
noncomputable section
open PySem PySem.Spec PyProof.Rows L2

section
variable {T : Tb} {g : Gx} {W : WX} {C : Ctx} {X : Cx} {a b e o : Expr} {x : Str} {p pos : Pos} {ca cb ce co : CE} {m : Bool}
/-- the own def f of the class c, by its name -/
structure OwnD (g : Gx) (C : Ctx) (X : Cx) (c j f n : Nat) : Prop where
  at_ : PySem.W.findIn X.K (.ref (g.ca c)) (g.nm j) = some (some (.ref (g.fa f)))
  fn : PySem.W.isFn X.K (.ref (g.fa f)) = true
  op : opB X.K (g.ca c) (g.nm j) (g.fa f) = true
  run : ∃ (k : Nat) (fd : FuncData) (ps : List Str), FnG X.prog X.w X.K X.mg X.base (L2.CX X.prog X.w) k (g.fa f) fd ps (spOf g C.call f) ∧ Room (k + 1) X.A ∧ GB X.K fd ps (List.replicate n none) []
theorem Fx.ownD (F : Fx T g W C X) {c j f n : Nat} (h : C.G.meths.lookup (c, j) = some f) (hn : (T.G.meths.all fun q => q.1.2 != j || argn T q.2 n) = true) : OwnD g C X c j f n := by
  rw [F.cG] at h
  have h := lookup_in h
  have z := ball hn _ h
  have z : argn T f n = true := by simpa using z
  obtain ⟨D, hD, d1, d2, d3⟩ := argn_ok z
  obtain ⟨k, G, hr⟩ := F.fn hD
  have hb := F.gb _ D hD d1 d2
  unfold posN at hb
  rw [d3, ← F.hg] at hb
  have y := methB_ok (F.wd.f.meth _ h)
  have w := F.wd.f.op _ h
  rw [← F.hg] at y w
  exact ⟨y.at_, y.fn, w, 2 * k + 2, _, D.ps, G, hr, hb⟩
/-- a def is called by a built-in that the expression calls -/
theorem fn_run1 {CT : CXT} {k : Nat} {fa : Addr} {fd : FuncData} {ps : List Str} {sp : Sp} {E : XK} {pins : List (Addr × Obj)} {σ : SS} {H : Hp} {s : Shared} {Q : VK} {us : List Value} {vs : List V} {ar : List Value}
    (F : FnG X.prog X.w X.K X.mg X.base CT k fa fd ps sp) (hr : Room (k + 1) X.A) (hg : X.A.guards = some []) (hb : BindsTo s fd ⟨ar, []⟩ (ps.zip us)) (hx : PassesAt CT X σ E) (I : Inv X pins σ H s) (r : Vals vs us) (h : sp vs H Q E) :
    wpAny (model X.prog X.w) X.A.in1 (PySem.call (.ref fa) ar) (EP X pins σ Q) X.xe s := by
  refine wpAny_call (codeAny_mono (F.run X.A.in1 X.stack s H ⟨ar, []⟩ us vs Q E hr.in1 hg I.env0.in1 hb r h) fun r s' hq => ?_)
  have z := end_call (E' := X.xe) (K := EP X pins σ Q) I (fun e s' c => hx pins H s e s' I c) (fun u s' q => q) hq
  cases r with
  | error e => exact z
  | ok fl => cases fl with
    | ret u => exact z
    | _ => exact False.elim z
theorem inst_at {pins : List (Addr × Obj)} {σ : SS} {H : Hp} {s : Shared} {a c dx : Addr} {fs : List (Str × V)} (I : Inv X pins σ H s) (ea : H a = some (.ins c dx fs)) : ∃ ox od, PySem.W.InstAt s.heap a ox c od := by
  obtain ⟨mA, O, _, _, _, _⟩ := ins_get I.hok ea
  obtain ⟨od, J, _⟩ := O.look
  exact ⟨_, od, J⟩
theorem cmpback {Q : Value → Shared → Prop} {z : V} {v : Value} {s' : Shared} (r : RelV z v) (h : Q v s') : PySem.W.CmpBack Q v s' := SlX.cmpback r h
/-- -x -/
theorem x_negO (F : Fx T g W C X) (j : Nat) (ho : SE g W C X e ce) (hx : g.nm j = "__neg__" := by rfl) (hn : (T.G.meths.all fun q => q.1.2 != j || argn T q.2 1) = true := by rfl) : SE g W C X (.UnaryOp .USub e pos) (.met ce j []) :=
  ⟨fun pins s σ H Q I ⟨ρ, M, ε, T', R, h⟩ => by
    refine UnaryOp_ (thn (ho.run pins s σ H (fun x H1 => ∃ ρ1 M1 p, Rl g ρ1 M1 H1 ε ((p, x) :: T') σ ∧ resW g W (match rd M1 p with
      | .ins c fs => (match C.G.meths.lookup (c, j), fs.lookup j with
        | some f, none => (evs C [] ε M1).bind fun vs M => C.call f (p :: vs) M
        | _, _ => .stuck)
      | _ => .stuck) ε T' σ (EndQ g Q)) I (tR.of R h fun p ρ1 M1 H1 x R1 h1 => ⟨ρ1, M1, p, R1, h1⟩)) fun u s1 ⟨x, H1, I1, rx, ρ1, M1, p, R1, h1⟩ => ?_)
    split at h1
    · rename_i c fs e1
      split at h1
      · rename_i f e2 e3
        obtain ⟨a, dx, fs', rfl, ea, rf⟩ := R1.insAt R1.head e1
        cases (show u = Value.ref a from rx)
        obtain ⟨at_, fn, _, k, fd, ps, G, hr, hb⟩ := F.ownD e2 hn
        rw [hx] at at_
        obtain ⟨ox, od, J⟩ := inst_at I1 ea
        obtain ⟨m0, hF⟩ := I1.fr
        have h1 : resW g W (C.call f [p] M1) ε T' σ (EndQ g Q) := h1
        exact PySem.W.ksp_neg hF I1.ok.mod.kin J at_ fn (fn_run (kw := []) G (hr.mono (Nat.le_succ _)) F.gd (hb s1 [.ref a] [] I1.kIn rfl rfl) (passAt F.tk σ) I1 (Paired.cons rx .nil) ⟨ρ1, M1, slots ε σ ++ T', [p], R1.tail.pack, .one R1.head, resW.toC R1.tail h1⟩)
      · exact h1.elim
    · exact h1.elim⟩
theorem op_names {op : Operator} {nm : Str} (h : op = .Add ∧ nm = "__add__" ∨ op = .BitXor ∧ nm = "__xor__" ∨ op = .LShift ∧ nm = "__lshift__") : PySem.dunder op.info.2 = nm := by
  rcases h with ⟨rfl, rfl⟩ | ⟨rfl, rfl⟩ | ⟨rfl, rfl⟩ <;> decide +kernel
/-- x + y, x ^ y, both of the class -/
theorem x_opO (F : Fx T g W C X) (j : Nat) (nm0 : Str) {op : Operator} (ha : SE g W C X a ca) (hb : SE g W C X b cb) (hx : g.nm j = nm0 := by rfl) (hop : PySem.dunder op.info.2 = nm0 := by decide +kernel) (hn : (T.G.meths.all fun q => q.1.2 != j || argn T q.2 2) = true := by rfl) : SE g W C X (.BinOp a op b pos) (.opO j ca cb) :=
  ⟨fun pins s σ H Q I ⟨ρ, M, ε, T', R, h⟩ => wpAny_BinOp (two_run (k := fun x y M => (match rd M x, rd M y with
    | .ins c _, .ins d _ => (match c == d, C.G.meths.lookup (c, j) with
      | true, some f => C.call f [x, y] M
      | _, _ => .stuck)
    | _, _ => .stuck)) ha hb I R h fun v u s2 x y H2 p q ρ2 M2 T2 I2 rx ry R2 hp hq h2 => by
    split at h2
    · rename_i c fs d fs2 e1 e2
      split at h2
      · rename_i f e3 e4
        have e3 : c = d := beq_iff_eq.mp e3
        subst e3
        obtain ⟨a1, dx, fs', rfl, ea, _⟩ := R2.insAt hp e1
        obtain ⟨a2, dx2, fs2', rfl, ea2, _⟩ := R2.insAt hq e2
        cases (show v = Value.ref a1 from rx)
        cases (show u = Value.ref a2 from ry)
        obtain ⟨at_, fn, op1, k, fd, ps, G, hr, hbb⟩ := F.ownD e4 hn
        rw [hx, ← hop] at at_
        unfold opB at op1
        rw [Bool.and_eq_true, Bool.and_eq_true] at op1
        obtain ⟨ox, od, J⟩ := inst_at I2 ea
        obtain ⟨ox2, od2, J2⟩ := inst_at I2 ea2
        obtain ⟨m0, hF⟩ := I2.fr
        refine PySem.W.binop_K hF I2.ok.mod.kin J J2.type op1.2.1 at_ fn (wpAny_mono (fn_run (kw := []) (pos := [.ref a1, .ref a2]) (Q := Q) G (hr.mono (Nat.le_succ _)) F.gd (hbb s2 [.ref a1, .ref a2] [] I2.kIn rfl rfl) (passAt F.tk σ) I2 (Paired.cons rx (Paired.cons ry .nil)) ⟨ρ2, M2, slots ε σ ++ T2, [p, q], R2.pack, .cons hp (.one hq), resW.toC R2 h2⟩) (fun z s' hz => ?_) fun _ _ z => z)
        obtain ⟨z', H', I', rz, qz⟩ := hz
        exact cmpback rz ⟨z', H', I', rz, qz⟩
      · exact h2.elim
    · exact h2.elim)⟩
/-- x[i] -/
theorem x_idxO (F : Fx T g W C X) (j : Nat) (ha : SE g W C X a ca) (hb : SE g W C X b cb) (hx : g.nm j = "__getitem__" := by rfl) (hn : (T.G.meths.all fun q => q.1.2 != j || argn T q.2 2) = true := by rfl)
    (hs : ∀ o i, subscripted b true o i = runValue (.builtin "lifetime.subscript" ⟨[o, i], []⟩) := by intro _ _; rfl) : SE g W C X (.Subscript a b pos) (.opI j ca cb) :=
  ⟨fun pins s σ H Q I ⟨ρ, M, ε, T', R, h⟩ => Subscript_ (two_run (k := fun x y M => (match rd M x with
    | .ins c _ => (match C.G.meths.lookup (c, j) with
      | some f => C.call f [x, y] M
      | none => .stuck)
    | _ => .stuck)) ha hb I R h fun v u s2 x y H2 p q ρ2 M2 T2 I2 rx ry R2 hp hq h2 => by
    split at h2
    · rename_i c fs e1
      split at h2
      · rename_i f e4
        obtain ⟨a1, dx, fs', rfl, ea, _⟩ := R2.insAt hp e1
        cases (show v = Value.ref a1 from rx)
        obtain ⟨at_, fn, op1, k, fd, ps, G, hr, hbb⟩ := F.ownD e4 hn
        rw [hx] at at_
        unfold opB at op1
        simp only [Bool.and_eq_true] at op1
        obtain ⟨ox, od, J⟩ := inst_at I2 ea
        obtain ⟨m0, hF⟩ := I2.fr
        exact PySem.W.sub_K hF I2.ok.mod.kin J at_ op1.2.2.1 fn (fn_run1 G hr F.gd (hbb s2 [.ref a1, u] [] I2.kIn rfl rfl) (passAt F.tk σ) I2 (Paired.cons rx (Paired.cons ry .nil)) ⟨ρ2, M2, slots ε σ ++ T2, [p, q], R2.pack, .cons hp (.one hq), resW.toC R2 h2⟩) (hs _ _)
      · exact h2.elim
    · exact h2.elim)⟩
/-- len(x) -/
def rLenO (g : Gx) (C : Ctx) (j : Nat) : List V → Hp → VK → Prop := fun vs H Q => ∃ ρ M T p v, vs = [v] ∧ Rl g ρ M H [] T [] ∧ RV g ρ M H p v ∧ resW g W0 (match rd M p with
    | .ins c _ => (match C.G.meths.lookup (c, j) with
      | some f => (match C.call f [p] M with
        | .ok (.int i) M1 => guard (decide (0 ≤ i) && decide (i < 4611686018427387904)) (.ok (.int i) M1)
        | _ => .stuck)
      | none => .stuck)
    | _ => .stuck) [] T [] (EndQ g Q)
theorem b_lenO (F : Fx T g W C X) (j : Nat) (hx : g.nm j = "__len__") (hn : (T.G.meths.all fun q => q.1.2 != j || argn T q.2 1) = true) : CallR X (.builtin "len") (rLenO g C j) := by
  intro pins s σ H vs us Q I r hq
  obtain ⟨ρ, M, T', p, v, rfl, R, hp, h⟩ := hq
  split at h
  · rename_i c fs e1
    split at h
    · rename_i f e4
      split at h
      · rename_i i M1 e5
        obtain ⟨hi, h⟩ := guard_ok h
        rw [Bool.and_eq_true, decide_eq_true_eq, decide_eq_true_eq] at hi
        obtain ⟨a1, dx, fs', rfl, ea, _⟩ := R.insAt hp e1
        obtain ⟨u, rfl, ru⟩ := vals1 r
        cases (show u = Value.ref a1 from ru)
        obtain ⟨at_, fn, op1, k, fd, ps, G, hr, hbb⟩ := F.ownD e4 hn
        rw [hx] at at_
        obtain ⟨ox, od, J⟩ := inst_at I ea
        obtain ⟨m0, hF⟩ := I.fr
        refine PySem.W.len_K hF I.ok.mod.kin J at_ fn (wpAny_call (codeAny_mono (G.run X.A.in1 X.stack s H ⟨[.ref a1], []⟩ [.ref a1] [.ref a1] (fun z H' => z = V.int i ∧ Q (.int i) H') (fun _ _ _ => False) hr.in1 F.gd I.env0.in1 (hbb s [.ref a1] [] I.kIn rfl rfl) (Paired.cons ru .nil) ⟨ρ, M, T', [p], R, .one hp, ?_⟩) fun r s' hz => ?_))
        · rw [e5]
          intro ρ3 H3 R3 z rz
          exact ⟨rz.int, h ρ3 H3 R3 _ (.ofInt i)⟩
        · cases r with
          | error e => exact (cx_never hz).elim
          | ok fl => cases fl with
            | ret z =>
              obtain ⟨z', H', I', rz, ez, qz⟩ := I.after hz
              subst ez
              obtain ⟨t, rfl⟩ := rz
              exact ⟨⟨hi.1, by omega⟩, .int i, H', I'.tok _, ⟨_, rfl⟩, qz⟩
            | _ => exact False.elim hz
      · exact h.elim
    · exact h.elim
  · exact h.elim
theorem x_lenO (F : Fx T g W C X) (j i : Nat) (ha : SA g W C X [e] [ce]) (hi : T.frees[i]? = some ("len" : Str) := by rfl) (hg : Gl X "len" := by rfl) (hx : g.nm j = "__len__" := by rfl) (hn : (T.G.meths.all fun q => q.1.2 != j || argn T q.2 1) = true := by rfl)
    (he : starEach [e] X.env = (false, eval e X.env) :: starEach [] X.env := by rfl) (hpl : (backTo pos (starEach [] X.env)).any (·.1) = false := by rfl) : SE g W C X (.Call (.Name "len" p) [e] [] pos) (.lenO j ce) :=
  ⟨fun pins s σ H Q I ⟨ρ, M, ε, T', R, h⟩ => by
    have h : resW g W ((ev C ce ε M).bind fun x M => (match rd M x with
      | .ins c _ => (match C.G.meths.lookup (c, j) with
        | some f => (match C.call f [x] M with
          | .ok (.int i) M1 => guard (decide (0 ≤ i) && decide (i < 4611686018427387904)) (.ok (.int i) M1)
          | _ => .stuck)
        | none => .stuck)
      | _ => .stuck)) ε T' σ (EndQ g Q) := h
    have e1 : ((ev C ce ε M).bind fun x M => (match rd M x with
      | .ins c _ => (match C.G.meths.lookup (c, j) with
        | some f => (match C.call f [x] M with
          | .ok (.int i) M1 => guard (decide (0 ≤ i) && decide (i < 4611686018427387904)) (.ok (.int i) M1)
          | _ => .stuck)
        | none => .stuck)
      | _ => .stuck)) = (evs C [ce] ε M).bind fun vs M => (match vs with
      | [x] => (match rd M x with
        | .ins c _ => (match C.G.meths.lookup (c, j) with
          | some f => (match C.call f [x] M with
            | .ok (.int i) M1 => guard (decide (0 ≤ i) && decide (i < 4611686018427387904)) (.ok (.int i) M1)
            | _ => .stuck)
          | none => .stuck)
        | _ => .stuck)
      | _ => .stuck) := by
      show _ = (((ev C ce ε M).bind fun v M => (Res.ok [] M).bind fun vs M => .ok (v :: vs) M).bind _)
      rw [bind_bind]
      rfl
    rw [e1] at h
    refine (pe_callB (id := "len") (b_lenO F j hx hn) hg (F.wd.fre i hi) rfl ha (by decide +kernel) (by decide +kernel) he hpl).run pins s σ H Q I (tRs.of R h fun ps ρ1 M1 H1 vs R1 rv h1 => ?_)
    split at h1
    · rename_i x
      obtain ⟨v, rfl, rx⟩ := rv.one_inv
      refine ⟨ρ1, M1, slots ε σ ++ T', x, v, rfl, R1.pack, rx, ?_⟩
      split at h1
      · rename_i c fs e2
        split at h1
        · rename_i f e3
          split at h1
          · rename_i i M2 e4
            obtain ⟨hh, h1⟩ := guard_ok h1
            rw [hh]
            show resW g W0 (.ok (.int i) M2 : Res PV) _ _ _ _
            intro ρ3 H3 R3
            exact h1 ρ3 H3 (R1.unpack R3)
          · exact h1.elim
        · exact h1.elim
      · exact h1.elim
    · exact h1.elim⟩
end
end
end WT
set_option maxRecDepth 100000
set_option autoImplicit false
/-! x << ys, ys a list or a tuple. -/
namespace WT
open PySem PySem.Spec PyProof.Rows L2
section
open PySem.W
variable {prog : Program} {w : World} {A : Around} {E : Value → Shared → Prop} {s : Shared} {K : Frag} {x C L f : Addr} {hb0 : Heap} {loc : Str → Option Value} {ob : Obj} {od : Option Obj} {T : String}
/-- an own operator, the right side of another type that is looked up -/
theorem bin_seq {op : Operator} {b : Value} {l1 l2 l3 : Option Value} {Q : Value → Shared → Prop} (fr : Fr hb0 L s.heap loc) (k0 : K.In hb0) (ia : InstAt s.heap x ob C od) (ty : Looks (model prog w) s.heap (typeOf b) (.type T))
    (sf : selfFirst K C = true) (own : findIn K (.ref C) (PySem.dunder op.info.2) = some (some (.ref f))) (fn : isFn K (.ref f) = true)
    (rev : findIn K (.ref C) (dunderR op.info.2) = some l3) (r0 : l3 = none) (q1 : findIn K (.type T) (PySem.dunder op.info.2) = some l1)
    (q2 : findIn K (.type T) (dunderR op.info.2) = some l2) (sb : subIn K (.type T) (.ref C) = some false)
    (run : wpAny (model prog w) A (PySem.call (.ref f) [.ref x, b]) (PySem.W.CmpBack Q) E s) : wpAny (model prog w) A (binaryOp op (.ref x) b) Q E s := by
  have kin := k0.keeps fr.keep
  obtain ⟨cls, tl, at1, at2⟩ := ksp_first sf
  rcases e0 : op.info with ⟨sg, nm⟩
  rw [e0] at own rev q1 q2
  dsimp only at own rev q1 q2
  have tried := ksp_try kin ia own fn run
  obtain ⟨hp, gs, dr, tk, os⟩ := s
  have k1 : Looks (model prog w) hp (typeOf (.ref x)) (.ref C) := ia.type
  have k2 : Looks (model prog w) hp (fillsNumberSlot (.ref C) nm) true := fills_K kin at1 at2 own
  have k3 : Looks (model prog w) hp (fillsNumberSlot (.type T) nm) ((l1.isSome && !isSeqSlot l1) || (l2.isSome && !isSeqSlot l2)) := ksp_fillsT kin q1 q2
  have k4 : Looks (model prog w) hp (isSubtype (.type T) (.ref C)) false := looks_subIn kin sb
  have k5 : Looks (model prog w) hp (numberSlotInPython (.ref C) nm) true := ksp_inPy kin own rev (.inl r0)
  have k6 : Looks (model prog w) hp (numberSlotInPython (.type T) nm) false := Looks.of_pure rfl
  have k7 : Looks (model prog w) hp (typeLookup (.type T) (dunderR nm)) l2 := looks_findIn kin q2
  generalize ((l1.isSome && !isSeqSlot l1) || (l2.isSome && !isSeqSlot l2)) = both at k3
  have two : (Value.ref C == Value.type T) = false := Bool.eq_false_iff.mpr fun z => by
    have := beq_iff_eq.mp z
    cases this
  simp only [binaryOp, e0]
  apply wpAny_holding
  apply wpAny_bind
  unfold binaryOp1
  apply wpAny_bind
  apply k1.at
  apply wpAny_bind
  apply ty.at
  apply wpAny_bind
  apply k2.at
  simp only [two, Bool.false_eq_true, if_false]
  have done : ∀ {P : Option Value → Shared → Prop}, (∀ v s', Q v s' → P (some v) s') → wpAny (model prog w) A (tryMethod (.ref x) (PySem.dunder nm) b) P E ⟨hp, gs, dr, tk, os⟩ := fun h => wpAny_mono tried (fun r s' ⟨v, e, hq⟩ => by
    rw [e]
    exact h v s' hq) fun _ _ e => e
  cases both with
  | false =>
    ksp_lk
    refine done fun v s' hq => ?_
    ksp_lk
    exact hq
  | true =>
    ksp_lk
    refine done fun v s' hq => ?_
    ksp_lk
    exact hq
end
section
variable {T : Tb} {g : Gx} {W : WX} {C : Ctx} {X : Cx} {a b : Expr} {pos : Pos} {ca cb : CE}
theorem seq_type {ρ : List Addr} {M : Mem} {H : Hp} {ε : WT.Env} {T' : List (PV × V)} {σ : SS} {pins : List (Addr × Obj)} {s : Shared} {q : PV} {y : V} {u : Value} {xs : List PV} (hK : X.K = g.K) (I : Inv X pins σ H s) (R : Rl g ρ M H ε T' σ) (hq : RV g ρ M H q y) (ry : RelV y u) (h : seqOf M q = some xs) :
    ∃ t, (t = "list" ∨ t = "tuple") ∧ PySem.W.Looks (model X.prog X.w) s.heap (typeOf u) (.type t) := by
  unfold seqOf at h
  split at h
  · rename_i e
    obtain ⟨_, a1, vs, rfl, s1, _⟩ := R.listAt hq e
    cases (show u = Value.ref a1 from ry)
    obtain ⟨_, its, n, rv, eo⟩ := (hK.symm ▸ s1 : LQ X.K H a1 vs).obj I
    exact ⟨"list", .inl rfl, fun A Q E s' k q => wpAny_typeOf_ref (k _ _ eo) q⟩
  · rename_i e
    obtain ⟨_, a1, vs, rfl, s1, _⟩ := R.tupAt hq e
    cases (show u = Value.ref a1 from ry)
    obtain ⟨its, rv, ⟨o, ho, hc, n', hd⟩, _⟩ := I.tuple (hK ▸ s1)
    exact ⟨"tuple", .inr rfl, fun A Q E s' k q => wpAny_typeOf_ref (k _ _ ho) (by rw [hc]; exact q)⟩
  · cases h
theorem x_shl (F : Fx T g W C X) (j : Nat) (ha : SE g W C X a ca) (hb : SE g W C X b cb) (hx : g.nm j = "__lshift__" := by rfl) (hn : (T.G.meths.all fun q => q.1.2 != j || argn T q.2 2) = true := by rfl) : SE g W C X (.BinOp a .LShift b pos) (.opL j ca cb) :=
  ⟨fun pins s σ H Q I ⟨ρ, M, ε, T', R, h⟩ => wpAny_BinOp (two_run (k := fun x y M => (match rd M x, seqOf M y with
    | .ins c _, some _ => (match C.G.meths.lookup (c, j) with
      | some f => C.call f [x, y] M
      | none => .stuck)
    | _, _ => .stuck)) ha hb I R h fun v u s2 x y H2 p q ρ2 M2 T2 I2 rx ry R2 hp hq h2 => by
    split at h2
    · rename_i c fs xs e1 e3
      split at h2
      · rename_i f e4
        obtain ⟨a1, dx, fs', rfl, ea, _⟩ := R2.insAt hp e1
        cases (show v = Value.ref a1 from rx)
        obtain ⟨at_, fn, op1, k, fd, ps, G, hr, hbb⟩ := F.ownD e4 hn
        rw [hx] at at_ op1
        unfold opB at op1
        simp only [Bool.and_eq_true] at op1
        obtain ⟨_, sf, _, op2⟩ := op1
        have op2 := (Bool.or_eq_true _ _ ▸ op2 : _ ∨ _).resolve_left (by decide +kernel)
        simp only [Bool.and_eq_true] at op2
        obtain ⟨e5, e6, e7⟩ := op2
        obtain ⟨ox, od, J⟩ := inst_at I2 ea
        obtain ⟨m0, hF⟩ := I2.fr
        obtain ⟨t, ht, lk⟩ := seq_type F.K I2 R2 hq ry e3
        have e8 : shlB X.K (g.ca c) t = true := by rcases ht with rfl | rfl <;> assumption
        unfold shlB at e8
        simp only [Bool.and_eq_true, beq_iff_eq] at e8
        obtain ⟨e9, e10, e11⟩ := e8
        obtain ⟨l1, e9⟩ := Option.isSome_iff_exists.mp e9
        obtain ⟨l2, e10⟩ := Option.isSome_iff_exists.mp e10
        refine bin_seq (op := .LShift) (l3 := none) hF I2.ok.mod.kin J lk sf at_ fn (He.eqO_ok e5) rfl e9 e10 e11 (wpAny_mono (fn_run (kw := []) (pos := [.ref a1, u]) (Q := Q) G (hr.mono (Nat.le_succ _)) F.gd (hbb s2 [.ref a1, u] [] I2.kIn rfl rfl) (passAt F.tk σ) I2 (Paired.cons rx (Paired.cons ry .nil)) ⟨ρ2, M2, slots ε σ ++ T2, [p, q], R2.pack, .cons hp (.one hq), resW.toC R2 h2⟩) (fun z s' hz => ?_) fun _ _ z => z)
        obtain ⟨z', H', I', rz, qz⟩ := hz
        exact cmpback rz ⟨z', H', I', rz, qz⟩
      · exact h2.elim
    · exact h2.elim)⟩
end
end WT
set_option maxRecDepth 100000
set_option autoImplicit false
/-! A class is called, its keyword left to its default, the empty tuple. -/
namespace WT
open PySem PySem.Spec PyProof.Rows L2

theorem fill_last {α : Type} {u : α} : ∀ {n : Nat} {xs : List α}, xs.length = n → fill (List.replicate n none ++ [some u]) xs = xs ++ [u]
  | 0, [], _ => rfl
  | n + 1, x :: r, h => by
    show x :: fill (List.replicate n none ++ [some u]) r = _
    rw [fill_last (by simpa using h)]
    rfl
theorem holes_last {α : Type} {u : α} : ∀ {n : Nat}, holes (List.replicate n (none : Option α) ++ [some u]) = n
  | 0 => rfl
  | n + 1 => by
    show holes (List.replicate n (none : Option α) ++ [some u]) + 1 = _
    rw [holes_last]
section
variable {T : Tb} {g : Gx} {W : WX} {C : Ctx} {X : Cx} {e : Expr} {es : List Expr} {kws : List Keyword} {x y : Str} {p pos : Pos} {cs : List CE} {ks : List Str}
/-- a class, some defaults -/
theorem x_mkP (F : Fx T g W C X) (j q k : Nat) {c i : Nat} {fr : Bool} {D : Def} {pat : List (Option Dfl)} (ha : CallArgs g W C X es kws pos ks cs) (hb : GB X.K (fdOf X.K (g.fa i)) D.ps (none :: pat) ks) (hl : cs.length = holes pat) (hdo : DflOk g pat) (hq : T.mks[q]? = some (c, i)) (hk : T.G.fns[k]? = some (.mk c i fr)) (hD : T.defs[i]? = some D) (hj : T.glos[j]? = some x) (hc : T.cns[c]? = some x) (hg : Gl X x) (hd : (x == ("__debug__" : Str)) = false) :
    SE g W C X (.Call (.Name x p) es kws pos) (.call k (argsOf pat cs)) := by
  obtain ⟨n, rfl, hr, hlv⟩ := F.lv
  have hgg := F.hg
  have hmk := F.wd.f.mks _ (List.mem_of_getElem? hq)
  rw [← hgg] at hmk
  have ec : g.ca c = He.ga X.K x := by
    rw [hgg]
    show He.ga X.K (T.cns.getD c "?") = _
    rw [List.getD, hc]
    rfl
  have hm := F.wd.glo j hj
  rw [← ec] at hm
  cases n with
  | zero =>
    have G : FnG X.prog X.w X.K X.mg X.base (L2.CX X.prog X.w) 0 (g.fa i) (fdOf X.K (g.fa i)) D.ps (spOf g (fun _ _ _ => Res.stuck) i) := ⟨fun _ _ _ _ ⟨_, _, _, _, _, _, h⟩ => h.elim, fun _ _ _ _ _ _ _ _ _ _ _ _ _ _ ⟨_, _, _, _, _, _, h⟩ => h.elim⟩
    exact se_mk (C := ⟨call T.G T.w 0, T.w, T.G⟩) (C' := ⟨fun _ _ _ => .stuck, T.w, T.G⟩) (init := i) (fr := fr) (f := k) (p := p) (pos := pos) rfl hmk G (hr.mono (by omega)) F.gd hg hm hb hl hdo F.tk hd ha
  | succ n =>
    have G := hlv n (Nat.le_succ n) i D hD
    rw [← hgg] at G
    exact se_mk (C := ⟨call T.G T.w (n + 1), T.w, T.G⟩) (C' := ⟨call T.G T.w n, T.w, T.G⟩) (c := c) (init := i) (fr := fr) (f := k) (p := p) (pos := pos) (by
      funext as M
      show (match T.G.fns[k]? with
        | some d => runFn ⟨call T.G T.w n, T.w, T.G⟩ d as M
        | none => .stuck) = _
      rw [hk]) hmk G (hr.mono (by omega)) F.gd hg hm hb hl hdo F.tk hd ha
theorem tup0_rv {K : PySem.W.Frag} {a : Addr} (h : tup0B K (.ref a) = true) (hg : g.K = K) (ρ : List Addr) (M : Mem) (H : Hp) : RV g ρ M H (.tup []) (.ref a) := by
  have h : (match K.lookup a with
    | some ⟨.type t, _, .seq its _, _⟩ => t == "tuple" && its.toList.isEmpty
    | _ => false) = true := h
  split at h
  · rename_i t od its n sl e
    rw [Bool.and_eq_true, beq_iff_eq, List.isEmpty_iff] at h
    obtain ⟨rfl, h2⟩ := h
    unfold RV
    refine ⟨Nat.zero_le _, a, [], rfl, .inr ⟨_, its, n, by rw [hg]; exact e, rfl, rfl, ?_, by rw [h2]; exact .nil⟩, by unfold RVs; rfl⟩
    have : its.size = 0 := by rw [← Array.length_toList, h2]; rfl
    rw [this]
    exact Nat.zero_le _
  · cases h
theorem gb_kw {K : PySem.W.Frag} {D : Def} {fd : FuncData} {q : PySem.W.Frag → Addr} {n : Nat} (is : D.E.Is K fd) (h1 : D.E.dfl = []) (h2 : D.E.kwd = [(y, .adr q)]) (hn : n + 1 = D.ps.length)
    (h : ∀ (A : Addr) (doc pm : Value) (an : Option Addr) (cdv ct : Value) (us ks : List Value), us.length = n → ks.length = 1 → KwChain A ([y].zip ks) (bindArgs (PySem.W.fnOf D.E.name D.E.qual D.E.params D.E.body D.E.scope .none (.ref A) doc pm an cdv ct) ⟨us, []⟩) (D.ps.zip (us ++ ks))) :
    GB K fd D.ps (List.replicate n none ++ [some ⟨.tup [], .ref (q K), .ref (q K)⟩]) [] := fun s us ws hk hl hw => by
  have is2 : FunD K D.E.name D.E.qual D.E.params D.E.body D.E.scope [] [(y, V.ref (q K))] (D.E.ad K) fd := by
    have := is
    unfold DefE.Is DefE.dvs DefE.kws at this
    rw [h1, h2] at this
    exact this
  obtain ⟨ds, rv, hb⟩ := is2.binds0 n (by simp) hn h
  obtain ⟨u, rfl, ru⟩ := vals1 rv
  cases (show u = Value.ref (q K) from ru)
  have hw : ws = [] := List.length_eq_zero_iff.mp hw
  subst hw
  rw [holes_last] at hl
  have hl : us.length = n := by simpa using hl
  have e : (List.replicate n (none : Option Dfl) ++ [some (⟨.tup [], .ref (q K), .ref (q K)⟩ : Dfl)]).map (fun (o : Option Dfl) => o.map fun (d : Dfl) => d.u) = List.replicate n none ++ [some (Value.ref (q K))] := by simp
  rw [e, List.append_nil, fill_last hl]
  exact hb s us hk (by rw [List.length_append, hl]; exact hn)
theorem x_newD (F : Fx T g W C X) (j q k : Nat) {c i : Nat} {fr : Bool} {D : Def} {ad : PySem.W.Frag → Addr} (ha : CallArgs g W C X es [] pos [] cs)
    (h : ∀ (A : Addr) (doc pm : Value) (an : Option Addr) (cdv ct : Value) (us ks : List Value), us.length = cs.length + 1 → ks.length = 1 → KwChain A ([y].zip ks) (bindArgs (PySem.W.fnOf D.E.name D.E.qual D.E.params D.E.body D.E.scope .none (.ref A) doc pm an cdv ct) ⟨us, []⟩) (D.ps.zip (us ++ ks)))
    (hq : T.mks[q]? = some (c, i) := by rfl) (hk : T.G.fns[k]? = some (.mk c i fr) := by rfl) (hD : T.defs[i]? = some D := by rfl) (h1 : D.E.dfl = [] := by rfl) (h2 : D.E.kwd = [(y, .adr ad)] := by rfl) (hj : T.glos[j]? = some x := by rfl) (hc : T.cns[c]? = some x := by rfl) (hl : cs.length + 2 = D.ps.length := by rfl) (hg : Gl X x := by rfl) (hd : (x == ("__debug__" : Str)) = false := by decide +kernel) :
    SE g W C X (.Call (.Name x p) es [] pos) (.call k (cs ++ [.lit (.tup [])])) := by
  have is := F.wd.is i D hD
  rw [← F.hg] at is
  have hb := gb_kw (n := cs.length + 1) is h1 h2 hl h
  have hf := F.wd.f.kw D (List.mem_of_getElem? hD)
  rw [h2] at hf
  have hf : tup0B X.K (.ref (ad X.K)) = true := (Bool.and_eq_true_iff.mp hf).1
  have := x_mkP (p := p) F j q k (pat := List.replicate cs.length none ++ [some ⟨.tup [], .ref (ad X.K), .ref (ad X.K)⟩]) ha hb holes_last.symm (fun d hd => by
    rcases List.mem_append.mp hd with hd | hd
    · cases List.eq_of_mem_replicate hd
    · have hd := List.mem_singleton.mp hd
      cases hd
      exact ⟨tup0_rv hf F.K.symm, rfl⟩) hq hk hD hj hc hg hd
  have e : argsOf (List.replicate cs.length none ++ [some ⟨.tup [], .ref (ad X.K), .ref (ad X.K)⟩]) cs = cs ++ [.lit (.tup [])] := by
    unfold argsOf
    rw [List.map_append, List.map_replicate]
    exact fill_last rfl
  rwa [e] at this
/-- a comprehension within one: no name of the defs around, but such as are passed on -/
theorem blkC_sub {N : List Str} {sc sc' scope : Scope} {own : List (Str × Nat)} (h : (scope.names.all fun y => match y.2 with
    | .free => false
    | _ => true) = true) (h2 : blkC N sc' scope own = true) : blkC N sc scope own = true := by
  unfold blkC at h2 ⊢
  rw [Bool.and_eq_true] at h2 ⊢
  refine ⟨h2.1, List.all_eq_true.mpr fun y hy => ?_⟩
  have z := List.all_eq_true.mp h2.2 y hy
  have w := List.all_eq_true.mp h y hy
  revert z w
  cases y.2 with
  | free => exact fun _ w => by cases w
  | _ => exact fun z _ => z
theorem z_en2 (F : Fx T g W C X) (j : Nat) {tpos : Pos} {elts : List Expr} {kk : Nat} {a : Expr} {ca : CE} (ha : SE g W C X a ca) (hj : T.frees[j]? = some ("enumerate" : Str) := by rfl) (hg : Gl X "enumerate" := by rfl) (hs : starEach [a] X.env = [(false, eval a X.env)] := by rfl) (hs2 : starEach [a] X.env = (false, eval a X.env) :: starEach [] X.env := by rfl) : SI g W C X (.Tuple elts kk tpos) (.Call (.Name "enumerate" p) [a] [] pos) (.enm2 ca) := si_enm F.K hg (F.wd.fre j hj) ha hs hs2
/-! ### dicts by comprehensions -/
theorem x_dcm (F : Fx T g W C X) (m : Bool) (own : List (Str × Nat)) {t : CT} {it : CI} {kx vx tg iter : Expr} {sc : Scope} {ck cv : CE} (hi : SI g W C X tg iter it) (hg : Bl X sc fun Y => PG Y tg (tG g t)) (hk : Bl X sc fun Y => SE g W0 C Y kx ck) (hv : Bl X sc fun Y => SE g W0 C Y vx cv)
    (ok : blkC X.N X.env.scope sc own = true := by decide +kernel) (hct : (ctS t).all (fun j => (own.map (·.2)).contains j) = true := by rfl) (hs : ∀ x, foldedSetIterable iter X.env x = pure x := by intro _; rfl) : SE g W C X (.DictComp kx vx [⟨tg, iter, [], 0⟩] sc pos) (.dcm m (own.map (·.2)) ck cv t it) :=
  se_dcm F.calm F.nd hi (blkOk_by ok) (fun j hj => List.contains_iff_mem.mp (ball hct j hj)) hg hk hv hs
theorem x_dcm2 (F : Fx T g W C X) (m : Bool) (own : List (Str × Nat)) (own1 : List Nat) {t t1 : CT} {it it1 : CI} {kx vx tg iter tg1 iter1 : Expr} {sc : Scope} {ck cv : CE} (hi : SI g W C X tg iter it) (hg : Bl X sc fun Y => PG Y tg (tG g t)) (hi1 : Bl X sc fun Y => SI g W0 C Y tg1 iter1 it1) (hg1 : Bl X sc fun Y => PG Y tg1 (tG g t1)) (hk : Bl X sc fun Y => SE g W0 C Y kx ck) (hv : Bl X sc fun Y => SE g W0 C Y vx cv)
    (ok : blkC X.N X.env.scope sc own = true := by decide +kernel) (hv1 : own1.all (fun j => (own.map (·.2)).contains j) = true := by rfl) (hct : (ctS t).all (fun j => (own.map (·.2)).contains j) = true := by rfl) (hct1 : (ctS t1).all (fun j => own1.contains j) = true := by rfl)
    (hs : ∀ x, foldedSetIterable iter X.env x = pure x := by intro _; rfl) (hs1 : ∀ en x, foldedSetIterable iter1 en x = pure x := by intro _ _; rfl) : SE g W C X (DC2 kx vx tg iter tg1 iter1 sc pos) (.dcm2 m (own.map (·.2)) own1 ck cv t it t1 it1) :=
  se_dcm2 F.calm F.nd hi (blkOk_by ok) (fun j hj => List.contains_iff_mem.mp (ball hv1 j hj)) (fun j hj => List.contains_iff_mem.mp (ball hct j hj)) (fun j hj => List.contains_iff_mem.mp (ball hct1 j hj)) hg hi1 hg1 hk hv hs hs1
end
end WT
set_option maxRecDepth 100000
set_option autoImplicit false
/-! list(range(n)). -/
namespace WT
open PySem PySem.Spec PyProof.Rows L2
section
variable {T : Tb} {g : Gx} {W : WX} {C : Ctx} {X : Cx} {a : Expr} {pos p p2 pos2 : Pos} {ca : CE} {m : Bool}
theorem se_lrng (hc : X.calm = true) (hgl : Gl X "list") (hml : X.mg "list" = none) (hgr : Gl X "range") (hmr : X.mg "range" = none) (ha : SE g W C X a ca) (na : starEach [a] X.env = (false, eval a X.env) :: starEach [] X.env) (nb : starEach [.Call (.Name "range" p2) [a] [] pos2] X.env = (false, eval (.Call (.Name "range" p2) [a] [] pos2) X.env) :: starEach [] X.env) : SE g W C X (.Call (.Name "list" p) [.Call (.Name "range" p2) [a] [] pos2] [] pos) (.lrng m ca) :=
  ⟨fun pins s σ H Q I ⟨ρ, M, ε, T, Rr, h⟩ => (pe_listRg (p := p) (pos := pos) hc hgl hml (prg_1 (p := p2) (pos := pos2) hgr hmr ha na) nb).run pins s σ H Q I (tR.of Rr h fun q ρ1 M1 H1 v R1 h1 => by
    split at h1
    · rename_i n
      obtain ⟨c, h1⟩ := guard_ok h1
      rw [Bool.and_eq_true, decide_eq_true_eq, decide_eq_true_eq] at c
      cases R1.head.int
      refine ⟨n, rfl, ⟨by omega, by omega, by omega, by omega, by omega⟩, fun l hl => ?_⟩
      have e : rgV 0 n = ((List.range n.toNat).map fun (i : Nat) => (i : Int)).map V.int := by
        unfold rgV
        rw [List.map_map, Int.sub_zero]
        refine List.map_congr_left fun i _ => ?_
        show V.int (0 + (i : Int)) = V.int (i : Int)
        rw [Int.zero_add]
      have e2 : ((List.range n.toNat).map fun (i : Nat) => PV.int (i : Int)) = ((List.range n.toNat).map fun (i : Nat) => (i : Int)).map PV.int := by rw [List.map_map]; rfl
      rw [e]
      rw [e2] at h1
      exact mkL_ok R1.tail (by rw [List.length_map, List.length_map, List.length_range]; have := sizeLine_eq; omega) RVs.ofInts hl h1
    · exact h1.elim)⟩
theorem x_lrng (F : Fx T g W C X) (i j : Nat) (ha : SE g W C X a ca) (hi : T.frees[i]? = some ("list" : Str) := by rfl) (hj : T.frees[j]? = some ("range" : Str) := by rfl) (hgl : Gl X "list" := by rfl) (hgr : Gl X "range" := by rfl) (na : starEach [a] X.env = (false, eval a X.env) :: starEach [] X.env := by rfl) (nb : starEach [.Call (.Name "range" p2) [a] [] pos2] X.env = (false, eval (.Call (.Name "range" p2) [a] [] pos2) X.env) :: starEach [] X.env := by rfl) : SE g W C X (.Call (.Name "list" p) [.Call (.Name "range" p2) [a] [] pos2] [] pos) (.lrng m ca) :=
  se_lrng F.calm hgl (F.wd.fre i hi) hgr (F.wd.fre j hj) ha na nb
end
end WT
set_option maxRecDepth 100000
set_option autoImplicit false
/-! dict(d), dict(pairs). -/
namespace WT
open PySem PySem.Spec PyProof.Rows L2
section
variable {T0 : Tb} {g : Gx} {W : WX} {C : Ctx} {X : Cx} {m : Bool} {ρ : List Addr} {M : Mem} {H : Hp} {ε : WT.Env} {T : List (PV × V)} {σ : L2.St}
theorem mkD_ok {kvs : List (PV × PV)} {kws : List (Key × V)} {p : Addr} {Q : VK} (R : Rl g ρ M H ε T σ) (hz : kvs.length ≤ sizeLine) (r : RVd g ρ M H kvs kws) (hp : H p = none)
    (h : resW g W (mkD m kvs M) ε T σ fun q ρ M H => ∀ v, RV g ρ M H q v → Q v H) : Q (.ref p) (upd H p (.dK kws)) := by
  cases m with
  | false =>
    refine h ρ _ (R.alloc hp) (.ref p) ?_
    unfold RV
    exact ⟨hz, p, kws, rfl, .of ⟨upd_same, fun l => (R.live_some l) hp⟩, RVd.later R.cells (Lat.alloc hp) r⟩
  | true =>
    have R' := R.new (c := .dic kvs) (o := .dK kws) hp ⟨hz, kws, upd_same, RVd.later R.cells (Lat.new R.len hp) r⟩
    refine h (ρ ++ [p]) _ R' (.ref p) ?_
    unfold RV
    exact ⟨p, rfl, by rw [← R.len]; simp⟩
theorem pairs_rv : ∀ (ps : List PV) (kvs : List (PV × PV)) (vs : List V), pairsOf ps = some kvs → RVs g ρ M H ps vs → ∃ (as : List Addr) (kws : List (Key × V)), vs = as.map V.ref ∧ Paired (fun p kv => SqT g.K H p [kV kv.1, kv.2]) as kws ∧ RVd g ρ M H kvs kws
  | [], kvs, vs, e, r => by
    cases e
    unfold RVs at r
    subst r
    exact ⟨[], [], rfl, .nil, by unfold RVd; rfl⟩
  | p :: ps, kvs, vs, e, r => by
    unfold RVs at r
    obtain ⟨v, s, rfl, hp, hr⟩ := r
    cases p with
    | tup l => match l, e, hp with
      | [], e, _ => cases e
      | [_], e, _ => cases e
      | _ :: _ :: _ :: _, e, _ => cases e
      | [k, x], e, hp =>
        have e : (match isKey k with
          | true => (pairsOf ps).map ((k, x) :: ·)
          | false => none) = some kvs := e
        split at e
        · rename_i hk
          obtain ⟨l, hl, rfl⟩ := Option.map_eq_some_iff.mp e
          obtain ⟨as, kws, rfl, h2, h3⟩ := pairs_rv ps l s hl hr
          unfold RV at hp
          obtain ⟨_, a, ws, rfl, hs, hw⟩ := hp
          unfold RVs at hw
          obtain ⟨vk, s1, rfl, hvk, hw⟩ := hw
          unfold RVs at hw
          obtain ⟨vx, s2, rfl, hvx, hw⟩ := hw
          unfold RVs at hw
          subst hw
          have hj : ∃ j, k = kPV j ∧ vk = kV j := by
            cases k with
            | int i => exact ⟨.inl i, rfl, by cases hvk.int; rfl⟩
            | str z => exact ⟨.inr z, rfl, by obtain ⟨rfl, _⟩ := hvk.str; rfl⟩
            | _ => cases hk
          obtain ⟨j, rfl, rfl⟩ := hj
          refine ⟨a :: as, (j, vx) :: kws, rfl, .cons hs h2, ?_⟩
          unfold RVd
          exact ⟨j, vx, kws, rfl, rfl, hvx, h3⟩
        · cases e
    | _ => cases e
theorem b_dict (hK : X.K = g.K) (hc : X.calm = true) : CallR X (.type "dict") (rBf g .dictNew m) := by
  intro pins s σ0 H vs us Q I r ⟨W, ρ, M, ε, T, σ, ps, R, hv, h⟩
  obtain ⟨p, v, rfl, rfl, hp⟩ := arg1 hv h fun qs hq => match qs, hq with
    | [], _ => rfl
    | [_], hq => absurd rfl hq
    | p :: _ :: _, _ => by cases p <;> rfl
  have h : resW g W (dictOf m p M) ε T σ (EndQ g Q) := h
  unfold dictOf at h
  split at h
  · rename_i kvs e
    obtain ⟨c, h⟩ := guard_ok h
    obtain ⟨a1, kws, rfl, s1, rr⟩ := R.dictAt hp e
    exact call_dictD pins s σ0 H _ us Q I r ⟨a1, kws, rfl, s1, fun l hl => mkD_ok R (by rw [sizeLine_eq]; have := of_decide_eq_true c; unfold sline at this; omega) rr hl h⟩
  · rename_i xs e
    split at h
    · rename_i kvs ek
      obtain ⟨c, h⟩ := guard_ok h
      obtain ⟨hz, a1, ws, rfl, s1, rr⟩ := R.listAt hp e
      obtain ⟨as, kws, rfl, h2, h3⟩ := pairs_rv xs kvs ws ek rr
      refine call_dictP hc pins s σ0 H _ us Q I r ⟨a1, as, kws, rfl, hK ▸ s1.sq, by rw [hK]; exact h2, fun l hl => mkD_ok R ?_ (RVd.merge h3 (by unfold RVd; rfl)) hl h⟩
      have := mergeP_len kvs []
      have := of_decide_eq_true c
      unfold sline at this
      rw [sizeLine_eq]
      simp at *
      omega
    · exact h.elim
  · exact h.elim
end
end WT
set_option maxRecDepth 100000
set_option autoImplicit false
/-! Dicts walked by values and items; get, pop; slots frozen. -/
namespace WT
open PySem PySem.Spec PyProof.Rows L2
section
variable {T0 : Tb} {g : Gx} {W : WX} {C : Ctx} {X : Cx} {m : Bool} {T : List (PV × V)} {tg e o e2 : Expr} {es : List Expr} {c co : CE} {cs : List CE} {pos apos tpos : Pos}
theorem iti_rel {kvs : List (PV × PV)} {a : Addr} {z : Obj} {kws : List (Key × V)} {T' : List (PV × V)} (hf : (kvs.all fun kv => keyFits kv.1) = true) (h1 : (PV.lk a z kws, V.bl true) ∈ T') (h2 : (PV.dic kvs, V.ref a) ∈ T') : ItRel g T' (kvs.map fun kv => PV.tup [kv.1, kv.2], []) (Iti a z kws) := by
  refine ⟨fun i p ρ M H ε σ R st e1 => ?_, fun ρ M H ε σ R st => ?_⟩
  · obtain ⟨hd, rs⟩ := keep_at h1 h2 R
    have e1 : (kvs.map fun kv => PV.tup [kv.1, kv.2])[i]? = some p := e1
    rw [List.getElem?_map] at e1
    obtain ⟨⟨k, q⟩, ek, rfl⟩ := Option.map_eq_some_iff.mp e1
    obtain ⟨j, v, e2, rfl, rv⟩ := rs.getD ek
    refine ⟨⟨hd, (List.getElem?_eq_some_iff.mp e2).1⟩, fun x H' ⟨t, k', v', e3, ex, ht, eh⟩ => ?_⟩
    subst eh ex
    rw [e2] at e3
    cases e3
    exact pair_new R ht (key_rv (List.all_eq_true.mp hf _ (List.mem_of_getElem? ek))) rv
  · obtain ⟨hd, rs⟩ := keep_at h1 h2 R
    exact ⟨hd, by rw [← rs.length]; simp⟩
/-- d.values() -/
theorem si_vals (he : SE g W C X e c) (hbase : attributeBase e "values" X.env (eval e X.env) = eval e X.env) (hline : (apos.endLine == pos.line) = true) : SI g W C X tg (.Call (.Attribute e "values" apos) [] [] pos) (.dvals c) :=
  ⟨fun pins s σ H R I ⟨ρ, M, ε, T, Rr, h⟩ => by
    refine (pi_values (tg := tg) (pe_keep he) hbase hline).run pins s σ H R I (tR.of Rr h fun p ρ1 M1 H1 v R1 h1 => ?_)
    split at h1
    · rename_i its e1
      unfold valSrc at e1
      split at e1
      · rename_i kvs
        cases e1
        have hv := R1.head
        unfold RV at hv
        obtain ⟨_, a, _, rfl, _⟩ := hv
        exact keep_run (Q := fun x H1 => ∃ d o kvs, x = V.ref d ∧ H1 d = some (.frz o (.dK kvs)) ∧ R (Itd d o kvs) H1) R1 fun z kws H' hd hl R2 => ⟨a, z, kws, rfl, hd, h1.ok R2.tail.tail _ _ (fun _ z => List.mem_cons_of_mem _ (List.mem_cons_of_mem _ z)) R2 (itd_rel List.mem_cons_self (List.mem_cons_of_mem _ List.mem_cons_self))⟩
      · cases e1
    · exact h1.elim⟩
/-- d.items() -/
theorem si_items {elts : List Expr} {kk : Nat} (he : SE g W C X e c) (hbase : attributeBase e "items" X.env (eval e X.env) = eval e X.env) (hline : (apos.endLine == pos.line) = true) : SI g W C X (.Tuple elts kk tpos) (.Call (.Attribute e "items" apos) [] [] pos) (.ditems c) :=
  ⟨fun pins s σ H R I ⟨ρ, M, ε, T, Rr, h⟩ => by
    refine (pi_items (elts := elts) (kk := kk) (tpos := tpos) (pe_keep he) hbase hline).run pins s σ H R I (tR.of Rr h fun p ρ1 M1 H1 v R1 h1 => ?_)
    split at h1
    · rename_i its e1
      unfold itemSrc at e1
      split at e1
      · rename_i kvs
        split at e1
        · rename_i hf
          cases e1
          have hv := R1.head
          unfold RV at hv
          obtain ⟨_, a, _, rfl, _⟩ := hv
          exact keep_run (Q := fun x H1 => ∃ d o kvs, x = V.ref d ∧ H1 d = some (.frz o (.dK kvs)) ∧ R (Iti d o kvs) H1) R1 fun z kws H' hd hl R2 => ⟨a, z, kws, rfl, hd, h1.ok R2.tail.tail _ _ (fun _ z => List.mem_cons_of_mem _ (List.mem_cons_of_mem _ z)) R2 (iti_rel hf List.mem_cons_self (List.mem_cons_of_mem _ List.mem_cons_self))⟩
        · cases e1
      · cases e1
    · exact h1.elim⟩
theorem z_vals (F : Fx T0 g W C X) (he : SE g W C X e c) (hbase : attributeBase e "values" X.env (eval e X.env) = eval e X.env := by rfl) (hline : (apos.endLine == pos.line) = true := by rfl) : SI g W C X tg (.Call (.Attribute e "values" apos) [] [] pos) (.dvals c) := si_vals he hbase hline
theorem z_items (F : Fx T0 g W C X) {elts : List Expr} {kk : Nat} (he : SE g W C X e c) (hbase : attributeBase e "items" X.env (eval e X.env) = eval e X.env := by rfl) (hline : (apos.endLine == pos.line) = true := by rfl) : SI g W C X (.Tuple elts kk tpos) (.Call (.Attribute e "items" apos) [] [] pos) (.ditems c) := si_items he hbase hline
/-! ### a slot is frozen -/
theorem Rl.frz {ρ : List Addr} {M : Mem} {H : Hp} {ε : WT.Env} {σ : SS} (R : Rl g ρ M H ε T σ) (i : Nat) : Rl g ρ (frzE i ε M).2 H (frzE i ε M).1 T σ := by
  unfold frzE
  split
  · rename_i j e1
    obtain ⟨v, e2, rv⟩ := R.env i _ e1
    have rv' := rv
    unfold RV at rv'
    obtain ⟨a, rfl, hj⟩ := rv'
    have key : ∀ {c : Cell} {p : PV}, M[j]? = some c → c ≠ .dead → RV g ρ (M.set j .dead) H p (.ref a) → Rl g ρ (M.set j .dead) H (ε.set i (some p)) T σ := fun {c p} hc hd hp => by
      have Rd := R.dead hj
      refine Rd.envs (by rw [List.length_set]; exact R.elen) fun k q ek => ?_
      by_cases hk : i = k
      · subst hk
        rw [List.getElem?_set_self (List.getElem?_eq_some_iff.mp e1).1] at ek
        cases ek
        exact ⟨_, e2, hp⟩
      · rw [List.getElem?_set_ne hk] at ek
        exact Rd.env k q ek
    split
    · rename_i xs e3
      obtain ⟨hz, vs, h1, h2⟩ := R.cel j a _ hj e3
      refine key e3 (fun z => nomatch z) ?_
      unfold RV
      exact ⟨hz, a, vs, rfl, .of ⟨h1, dead_not_live R hj e3 (fun z => nomatch z)⟩, RVs.later R.cells (Lat.dead hj) h2⟩
    · rename_i kvs e3
      obtain ⟨hz, vs, h1, h2⟩ := R.cel j a _ hj e3
      refine key e3 (fun z => nomatch z) ?_
      unfold RV
      exact ⟨hz, a, vs, rfl, .of ⟨h1, dead_not_live R hj e3 (fun z => nomatch z)⟩, RVd.later R.cells (Lat.dead hj) h2⟩
    · exact R
  · exact R
theorem y_gh {s : Stmt} {q : CS} (i : Nat) (h : SS1 g W C X s q) : SS1 g W C X s (.gh i q) :=
  ⟨fun pins st σ H D I ⟨ρ, M, ε, T, R, hw⟩ => h.run pins st σ H D I ⟨ρ, _, _, T, R.frz i, hw⟩⟩
/-! ### get, pop -/
theorem isDi {b : BM} (hb : b = .get ∨ b = .getOr ∨ b = .popAt) : ∀ x, bmOk b x = true → ∃ kvs, x = .dic kvs := fun x h => by
  rcases hb with rfl | rfl | rfl <;> (cases x <;> first | exact ⟨_, rfl⟩ | cases h)
theorem bmD {b : BM} (h : ∀ x, bmOk b x = true → ∃ kvs, x = .dic kvs) : BmTy b "dict" := .inr (.inr ⟨rfl, h⟩)
theorem m_get (hu : X.A.units + 65 < cLine) : MtR X "dict.get" (rBm g .get m) := by
  intro pins s σ0 H x vs v us Q I rx rv ⟨W, ρ, M, ε, T, σ, p, ps, R, hp, hv, h⟩
  unfold bmeth at h
  split at h <;> try (rename_i hb; exact BM.noConfusion hb)
  · rename_i k _
    split at h
    · rename_i kvs e1 e2
      obtain ⟨y, rfl, hy⟩ := hv.one_inv
      obtain ⟨a, o, rfl, dg, is, hs⟩ := R.dget hp e1 e2 hy
      cases (show v = Value.ref a from rx)
      obtain ⟨u, rfl, ru⟩ := rv.one
      refine d_get1 (by omega) I dg ru fun w' s' I' rw' => ⟨_, H, I', rw', ?_⟩
      cases c : getK k kvs with
      | none =>
        rw [c] at is h
        have : o = none := by cases o with | none => rfl | some _ => cases is
        subst this
        exact h.ok R _ .ofNon
      | some r =>
        obtain ⟨v, rfl, r2⟩ := hs r c
        rw [c] at h
        exact h.ok R _ r2
    · exact h.elim
  · exact h.elim
theorem m_getOr (hu : X.A.units + 65 < cLine) : MtR X "dict.get" (rBm g .getOr m) := by
  intro pins s σ0 H x vs v us Q I rx rv ⟨W, ρ, M, ε, T, σ, p, ps, R, hp, hv, h⟩
  unfold bmeth at h
  split at h <;> try (rename_i hb; exact BM.noConfusion hb)
  · rename_i k d _
    split at h
    · rename_i kvs e1 e2
      obtain ⟨y, z, rfl, hy, hz⟩ := hv.two_inv
      obtain ⟨a, o, rfl, dg, is, hs⟩ := R.dget hp e1 e2 hy
      cases (show v = Value.ref a from rx)
      cases rv with
      | cons ru rr =>
        obtain ⟨u2, rfl, ru2⟩ := (show Vals _ _ from rr).one
        refine d_get2 (by omega) I dg ru ru2 fun w' s' I' rw' => ⟨_, H, I', rw', ?_⟩
        cases c : getK k kvs with
        | none =>
          rw [c] at is h
          have : o = none := by cases o with | none => rfl | some _ => cases is
          subst this
          exact h.ok R _ hz
        | some r =>
          obtain ⟨v, rfl, r2⟩ := hs r c
          rw [c] at h
          exact h.ok R _ r2
    · exact h.elim
  · exact h.elim
theorem RVd.drop {ρ : List Addr} {M : Mem} {H : Hp} {k : Key} : ∀ {kvs : List (PV × PV)} {kws : List (Key × V)}, RVd g ρ M H kvs kws → RVd g ρ M H (kvs.filter fun kv => !eqK kv.1 (kPV k)) (dropK kws k)
  | [], _, h => by unfold RVd at h; subst h; show RVd g ρ M H [] []; unfold RVd; rfl
  | (q, x) :: r, _, h => by
    unfold RVd at h
    obtain ⟨j, u, s, rfl, rfl, h1, h2⟩ := h
    have ih := RVd.drop (k := k) h2
    unfold dropK at ih ⊢
    rw [List.filter_cons, List.filter_cons]
    have ek : eqK (kPV j) (kPV k) = decide (j = k) := eqK_iff j k
    by_cases hj : j = k
    · rw [if_neg (by show ¬ ((!eqK (kPV j) (kPV k)) = true); rw [ek, decide_eq_true hj]; simp), if_neg (by simp [hj])]
      exact ih
    · rw [if_pos (by show ((!eqK (kPV j) (kPV k)) = true); rw [ek, decide_eq_false hj]; rfl), if_pos (by simp [hj])]
      unfold RVd
      exact ⟨j, u, _, rfl, rfl, h1, ih⟩
theorem m_popAt : MtR X "dict.pop" (rBm g .popAt m) := by
  intro pins s σ0 H x vs v us Q I rx rv ⟨W, ρ, M, ε, T, σ, p, ps, R, hp, hv, h⟩
  unfold bmeth at h
  split at h <;> try (rename_i hb; exact BM.noConfusion hb)
  · rename_i i k _
    split at h
    · rename_i kvs e1 e2
      split at h
      · rename_i r e3
        obtain ⟨y, rfl, hy⟩ := hv.one_inv
        obtain ⟨j, rfl, rfl⟩ := kPV_key e2 hy
        obtain ⟨a, kws, rfl, hi, hz, hH, rr⟩ := cell_dic R hp e1
        cases (show v = Value.ref a from rx)
        obtain ⟨u, rfl, ru⟩ := rv.one
        obtain ⟨w, e4, rw4⟩ := (getK_val (k := j) rr).1 r e3
        have l : Lat ρ M H ρ (M.set i (.dic (kvs.filter fun kv => !eqK kv.1 (kPV j)))) (upd H a (.dK (dropK kws j))) := Lat.put hi e1 (fun z => nomatch z)
        have R' := R.put (c' := .dic (kvs.filter fun kv => !eqK kv.1 (kPV j))) (o := .dK (dropK kws j)) hi e1 (fun z => nomatch z) ⟨Nat.le_trans (List.length_filter_le _ _) hz, _, upd_same, RVd.later R.cells l rr.drop⟩
        exact d_pop I hH ru e4 (.inl rfl) fun w' s3 I3 rw' => ⟨w, _, I3, rw', h.ok R' _ (rw4.later R.cells l)⟩
      · exact h.elim
    · exact h.elim
  · exact h.elim
theorem xm_get (F : Fx T0 g W C X) (m : Bool) (ho : SE g W C X o co) (ha : SA g W C X [e] cs) (hbase : attributeBase o "get" X.env (eval o X.env) = eval o X.env := by rfl) (hfew : MForm X e [] pos := by rfl) (hline : (apos.endLine == pos.line) = true := by rfl) (hs : starEach [e] X.env = (false, eval e X.env) :: starEach [] X.env := by rfl) (hpl : (backTo pos (starEach [] X.env)).any (·.1) = false := by rfl) :
    SE g W C X (.Call (.Attribute o "get" apos) [e] [] pos) (.bme co .get m cs) := se_bme F.K (bmD (isDi (.inl rfl))) PySem.F.plainAttrs_dict PySem.F.slot_dict_get PySem.F.type_dict_get (m_get F.un) ho ha hbase hfew hline hs hpl
theorem xm_getOr (F : Fx T0 g W C X) (m : Bool) (ho : SE g W C X o co) (ha : SA g W C X [e, e2] cs) (hbase : attributeBase o "get" X.env (eval o X.env) = eval o X.env := by rfl) (hfew : MForm X e [e2] pos := by rfl) (hline : (apos.endLine == pos.line) = true := by rfl) (hs : starEach [e, e2] X.env = (false, eval e X.env) :: starEach [e2] X.env := by rfl) (hpl : (backTo pos (starEach [e2] X.env)).any (·.1) = false := by rfl) :
    SE g W C X (.Call (.Attribute o "get" apos) [e, e2] [] pos) (.bme co .getOr m cs) := se_bme F.K (bmD (isDi (.inr (.inl rfl)))) PySem.F.plainAttrs_dict PySem.F.slot_dict_get PySem.F.type_dict_get (m_getOr F.un) ho ha hbase hfew hline hs hpl
theorem xm_popAt (F : Fx T0 g W C X) (m : Bool) (ho : SE g W C X o co) (ha : SA g W C X [e] cs) (hbase : attributeBase o "pop" X.env (eval o X.env) = eval o X.env := by rfl) (hfew : MForm X e [] pos := by rfl) (hline : (apos.endLine == pos.line) = true := by rfl) (hs : starEach [e] X.env = (false, eval e X.env) :: starEach [] X.env := by rfl) (hpl : (backTo pos (starEach [] X.env)).any (·.1) = false := by rfl) :
    SE g W C X (.Call (.Attribute o "pop" apos) [e] [] pos) (.bme co .popAt m cs) := se_bme F.K (bmD (isDi (.inr (.inr rfl)))) PySem.F.plainAttrs_dict PySem.F.slot_dict_pop PySem.F.type_dict_pop m_popAt ho ha hbase hfew hline hs hpl
end
end WT
set_option maxRecDepth 100000
set_option autoImplicit false
/-! More rules: own values, methods of built-in types, loops that test, chains, dicts made. -/
namespace WT
noncomputable section
open PySem (Str CmpOp Operator PyData)
/-! ### what is equal to itself -/
mutual
def okP : PV → Bool
  | .non | .bl _ | .int _ => true
  | .str s => PyData.strOk s
  | .tup xs => okPs xs
  | .lst xs => okPs xs
  | _ => false
def okPs : List PV → Bool
  | [] => true
  | x :: r => okP x && okPs r
end
mutual
def dpP : PV → Nat
  | .tup xs => dpPs xs + 1
  | .lst xs => dpPs xs + 1
  | _ => 0
def dpPs : List PV → Nat
  | [] => 0
  | x :: r => max (dpP x) (dpPs r)
end
mutual
theorem okP_deep : ∀ p : PV, okP p = true → ∃ d, (∀ r, deepW r p = some d) ∧ d.canLay0 = true ∧ d.depth ≤ dpP p ∧ PyData.eqv d d = true
  | .non, _ => ⟨.none, fun _ => rfl, rfl, Nat.le_refl _, rfl⟩
  | .bl b, _ => ⟨.bool b, fun _ => rfl, rfl, Nat.le_refl _, by cases b <;> rfl⟩
  | .int i, _ => ⟨.int i, fun _ => rfl, rfl, Nat.le_refl _, by show (i == i) = true; simp⟩
  | .str s, h => ⟨.str s, fun _ => rfl, h, Nat.le_refl _, by show (s == s) = true; simp⟩
  | .tup xs, h => by
    obtain ⟨ds, e, h1, h2, h3⟩ := okPs_deep xs h
    exact ⟨.tuple ds, fun r => by show (deepWs r xs).map PyData.tuple = _; rw [e]; rfl, h1, Nat.succ_le_succ h2, h3⟩
  | .lst xs, h => by
    obtain ⟨ds, e, h1, h2, h3⟩ := okPs_deep xs h
    exact ⟨.list ds, fun r => by show (deepWs r xs).map PyData.list = _; rw [e]; rfl, h1, Nat.succ_le_succ h2, h3⟩
  | .dic _, h => by cases h
  | .ins _ _, h => by cases h
  | .exc _ _, h => by cases h
  | .ref _, h => by cases h
  | .cls _, h => by cases h
  | .fn _, h => by cases h
  | .ty _, h => by cases h
  | .lk _ _ _, h => by cases h
theorem okPs_deep : ∀ ps : List PV, okPs ps = true → ∃ ds, (∀ r, deepWs r ps = some ds) ∧ PyData.canLayAll0 ds = true ∧ PyData.depthAll ds ≤ dpPs ps ∧ PyData.eqvAll ds ds = true
  | [], _ => ⟨[], fun _ => rfl, rfl, Nat.le_refl _, rfl⟩
  | x :: l, h => by
    obtain ⟨ha, hb⟩ := Bool.and_eq_true_iff.mp (show (okP x && okPs l) = true from h)
    obtain ⟨d, e, h1, h2, h3⟩ := okP_deep x ha
    obtain ⟨ds, e', g1, g2, g3⟩ := okPs_deep l hb
    refine ⟨d :: ds, fun r => ?_, ?_, ?_, ?_⟩
    · show (deepW r x).bind (fun d => (deepWs r l).map fun ds => d :: ds) = _
      rw [e, e']
      rfl
    · show (d.canLay0 && PyData.canLayAll0 ds) = true
      rw [h1, g1]; rfl
    · show max d.depth (PyData.depthAll ds) ≤ max (dpP x) (dpPs l)
      omega
    · show (PyData.eqv d d && PyData.eqvAll ds ds) = true
      rw [h3, g3]; rfl
end
theorem okPs_of {xs : List PV} (h : ∀ x ∈ xs, okP x = true) : okPs xs = true := by
  induction xs with
  | nil => rfl
  | cons x r ih =>
    show (okP x && okPs r) = true
    rw [h x List.mem_cons_self, ih fun y hy => h y (List.mem_cons_of_mem _ hy)]
    rfl
theorem dpPs_le {n : Nat} {xs : List PV} (h : ∀ x ∈ xs, dpP x ≤ n) : dpPs xs ≤ n := by
  induction xs with
  | nil => exact Nat.zero_le _
  | cons x r ih =>
    show max (dpP x) (dpPs r) ≤ n
    have := h x List.mem_cons_self
    have := ih fun y hy => h y (List.mem_cons_of_mem _ hy)
    omega
theorem eq_selfD {M : Mem} {d : PyData} {x : PV} (h : deep M x = some d) (h1 : d.canLay0 = true) (h2 : d.depth ≤ 64) (h3 : PyData.eqv d d = true) : (deep M x).bind (fun d => (deep M x).bind fun e => if PySem.SeqAt.shaped d && PySem.SeqAt.shaped e then some (PyData.eqv d e) else none) = some true := by
  have hs : PySem.SeqAt.shaped d = true := by
    unfold PySem.SeqAt.shaped
    rw [h1, decide_eq_true h2]
    rfl
  rw [h, Option.bind_some, Option.bind_some, hs, h3]
  rfl
/-- a tuple, a list: equal to itself -/
theorem eq_tupSelf {M : Mem} {xs : List PV} (h : okPs xs = true) (hd : dpPs xs ≤ 60) : eqData M (.tup xs) (.tup xs) = some true := by
  obtain ⟨d, e, h1, h2, h3⟩ := okP_deep (.tup xs) h
  have h2 : d.depth ≤ dpPs xs + 1 := h2
  exact eq_selfD (e _) h1 (by omega) h3
theorem eq_lstSelf {M : Mem} {xs : List PV} (h : okPs xs = true) (hd : dpPs xs ≤ 60) : eqData M (.lst xs) (.lst xs) = some true := by
  obtain ⟨d, e, h1, h2, h3⟩ := okP_deep (.lst xs) h
  have h2 : d.depth ≤ dpPs xs + 1 := h2
  exact eq_selfD (e _) h1 (by omega) h3
section
variable {C : Ctx} {ε : Env} {M N : Mem} {Q E : PV → Mem → Prop} {K : Bool → Mem → Prop} {v x y : PV} {vs xs ys : List PV} {P : Out → Prop} {r : List CS}
theorem rp_eqT (h : eqData M (.tup xs) (.tup ys) = some true) (hq : Q (.bl true) M) : Rp (cmpop C .Eq (.tup xs) (.tup ys) M) Q E :=
  (rp_eqD (b := true) (fun c fs h => by cases h) (fun c fs h => by cases h) h).mpr hq
theorem rp_neL (h : eqData M (.lst xs) (.lst ys) = some true) (hq : Q (.bl false) M) : Rp (cmpop C .NotEq (.lst xs) (.lst ys) M) Q E :=
  (rp_neD (b := true) (fun c fs h => by cases h) (fun c fs h => by cases h) h).mpr hq
/-! ### kinds -/
def Kisi (C : Ctx) (ts : List PV) (Q : PV → Mem → Prop) (x : PV) (M : Mem) : Prop := match isAny C.G M x ts with
  | some b => Q (.bl b) M
  | none => False
theorem kisi {ts : List PV} {b : Bool} (h : isAny C.G M x ts = some b) : Kisi C ts Q x M ↔ Q (.bl b) M := by
  unfold Kisi
  rw [h]
@[simp ↓] theorem rp_isi {e : CE} {ts : List PV} {t : Bool} : Rp (ev C (.isi e ts t) ε M) Q E ↔ Rp (ev C e ε M) (Kisi C ts Q) E := by
  rw [e_isi, rp_bind]
  refine iff_of_eq (congrArg (fun K => Rp (ev C e ε M) K E) (funext fun x => funext fun N => ?_))
  unfold Kisi
  cases isAny C.G N x ts <;> rfl
@[simp ↓] theorem kisi_strS {z : Str} : Kisi C [.ty "str"] Q (.str z) M ↔ Q (.bl true) M := Iff.rfl
@[simp ↓] theorem kisi_lt1 : Kisi C [.ty "list", .ty "tuple"] Q (.lst xs) M ↔ Q (.bl true) M := Iff.rfl
@[simp ↓] theorem kisi_lt2 : Kisi C [.ty "list", .ty "tuple"] Q (.tup xs) M ↔ Q (.bl true) M := Iff.rfl
@[simp ↓] theorem kisi_intI {i : Int} : Kisi C [.ty "int"] Q (.int i) M ↔ Q (.bl true) M := Iff.rfl
@[simp ↓] theorem kisi_boolI {i : Int} : Kisi C [.ty "bool"] Q (.int i) M ↔ Q (.bl false) M := Iff.rfl
/-! ### fields -/
def fldOf (C : Ctx) (x : PV) (k : Nat) (M : Mem) : Res PV := match rd M x with
    | .ins c fs => (match fs.lookup k with
      | some v => (match C.G.flds.contains (c, k) with
        | true => .ok v M
        | false => .stuck)
      | none => (match C.G.props.lookup (c, k) with
        | some f => (match C.call f [x] M with
          | .ok v M => .ok v M
          | _ => .stuck)
        | none => .stuck))
    | .exc c fs => (match C.G.xflds.contains (c, k) with
      | true => ofOpt M (fs.lookup k)
      | false => .stuck)
    | _ => .stuck
def Kfld (C : Ctx) (k : Nat) (Q E : PV → Mem → Prop) (x : PV) (M : Mem) : Prop := Rp (fldOf C x k M) Q E
@[simp ↓] theorem rp_fld {e : CE} {k : Nat} : Rp (ev C (.fld e k) ε M) Q E ↔ Rp (ev C e ε M) (Kfld C k Q E) E := by
  rw [e_fld, rp_bind]
  exact Iff.rfl
theorem kfld_own {c k : Nat} {fs : List (Nat × PV)} (h0 : rd M x = .ins c fs) (h1 : fs.lookup k = some v) (h2 : C.G.flds.contains (c, k) = true) : Kfld C k Q E x M ↔ Q v M := by
  unfold Kfld fldOf
  rw [h0]
  simp only [h1, h2]
  exact Iff.rfl
theorem kfld_prop {c k f : Nat} {fs : List (Nat × PV)} (h0 : rd M x = .ins c fs) (h1 : fs.lookup k = none) (h2 : C.G.props.lookup (c, k) = some f) (h3 : C.call f [x] M = .ok v M) : Kfld C k Q E x M ↔ Q v M := by
  unfold Kfld fldOf
  rw [h0]
  simp only [h1, h2, h3]
  exact Iff.rfl
/-- a field is stored -/
theorem wp_setf {L c k : Nat} {e : CE} {fs : List (Nat × PV)} {i : Nat} (h : Rp (ev C e ε M) (fun v N => ε[i]? = some (some (.ref L)) ∧ N[L]? = some (.ins c fs) ∧ (decide (fs.length < 1000) && C.G.flds.contains (c, k)) = true ∧ Wp (exs C r ε (N.set L (.ins c (putF k v fs)))) P) (Ker ε P)) : Wp (exs C (.setf (.loc i) k e :: r) ε M) P := by
  rw [xs_cons, x_setf]
  revert h
  generalize ev C e ε M = q
  cases q with
  | ok v N =>
    rintro ⟨h1, h2, h3, h4⟩
    show Wp (((ev C (.loc i) ε N).out ε _).seq _) P
    rw [e_loc h1]
    show Wp ((match N[L]? with
      | some (.ins c fs) => (match decide (fs.length < 1000) && C.G.flds.contains (c, k) with
        | true => Out.nx ε (N.set L (.ins c (putF k v fs)))
        | false => .stuck)
      | _ => .stuck).seq _) P
    rw [h2]
    simp only [h3]
    exact h4
  | err e N => exact fun h => h
  | stuck => exact fun h => h.elim
/-! ### chains of comparisons -/
def Kchn3 (C : Ctx) (o2 : CmpOp) (y : PV) (c : CE) (ε : Env) (Q E : PV → Mem → Prop) (t : PV) (M : Mem) : Prop := match t with
  | .bl true => Rp (ev C c ε M) (Kcmp2 C o2 y Q E) E
  | .bl false => Q (.bl false) M
  | _ => False
def Kchn2 (C : Ctx) (o1 o2 : CmpOp) (x : PV) (c : CE) (ε : Env) (Q E : PV → Mem → Prop) (y : PV) (M : Mem) : Prop := Rp (cmpop C o1 x y M) (Kchn3 C o2 y c ε Q E) E
def Kchn1 (C : Ctx) (o1 o2 : CmpOp) (b c : CE) (ε : Env) (Q E : PV → Mem → Prop) (x : PV) (M : Mem) : Prop := Rp (ev C b ε M) (Kchn2 C o1 o2 x c ε Q E) E
@[simp ↓] theorem kchn3_t {o2 : CmpOp} {c : CE} : Kchn3 C o2 y c ε Q E (.bl true) M ↔ Rp (ev C c ε M) (Kcmp2 C o2 y Q E) E := Iff.rfl
@[simp ↓] theorem kchn3_f {o2 : CmpOp} {c : CE} : Kchn3 C o2 y c ε Q E (.bl false) M ↔ Q (.bl false) M := Iff.rfl
@[simp ↓] theorem kchn2 {o1 o2 : CmpOp} {c : CE} : Kchn2 C o1 o2 x c ε Q E y M ↔ Rp (cmpop C o1 x y M) (Kchn3 C o2 y c ε Q E) E := Iff.rfl
@[simp ↓] theorem kchn1 {o1 o2 : CmpOp} {b c : CE} : Kchn1 C o1 o2 b c ε Q E x M ↔ Rp (ev C b ε M) (Kchn2 C o1 o2 x c ε Q E) E := Iff.rfl
@[simp ↓] theorem rp_chn {o1 o2 : CmpOp} {a b c : CE} : Rp (ev C (.chn o1 o2 a b c) ε M) Q E ↔ Rp (ev C a ε M) (Kchn1 C o1 o2 b c ε Q E) E := by
  show Rp ((ev C a ε M).bind _) Q E ↔ _
  rw [rp_bind]
  refine iff_of_eq (congrArg (fun K => Rp (ev C a ε M) K E) (funext fun x => funext fun N => ?_))
  unfold Kchn1
  rw [rp_bind]
  refine congrArg (fun K => Rp (ev C b ε N) K E) (funext fun y => funext fun N => ?_)
  unfold Kchn2
  rw [rp_bind]
  refine congrArg (fun K => Rp (cmpop C o1 x y N) K E) (funext fun t => funext fun N => ?_)
  cases t with
  | bl b =>
    cases b with
    | true =>
      show Rp ((ev C c ε N).bind _) Q E = Rp (ev C c ε N) (Kcmp2 C o2 y Q E) E
      rw [rp_bind]
      rfl
    | false => rfl
  | _ => rfl
/-! ### methods of built-in types -/
def Kbme2 (b : BM) (m : Bool) (x : PV) (Q E : PV → Mem → Prop) (vs : List PV) (M : Mem) : Prop := Rp (bmeth b m x vs M) Q E
@[simp ↓] theorem kbme2 {b : BM} {m : Bool} : Kbme2 b m x Q E vs M ↔ Rp (bmeth b m x vs M) Q E := Iff.rfl
def Kbme1 (C : Ctx) (b : BM) (m : Bool) (as : List CE) (ε : Env) (Q E : PV → Mem → Prop) (x : PV) (M : Mem) : Prop := bmOk b (rd M x) = true ∧ Rp (evs C as ε M) (Kbme2 b m x Q E) E
@[simp ↓] theorem rp_bme {o : CE} {b : BM} {m : Bool} {as : List CE} : Rp (ev C (.bme o b m as) ε M) Q E ↔ Rp (ev C o ε M) (Kbme1 C b m as ε Q E) E := by
  rw [e_bme, rp_bind]
  refine iff_of_eq (congrArg (fun K => Rp (ev C o ε M) K E) (funext fun x => funext fun N => ?_))
  unfold Kbme1
  cases bmOk b (rd N x) with
  | true =>
    show Rp ((evs C as ε N).bind _) Q E = (true = true ∧ _)
    rw [rp_bind]
    simp only [true_and]
    rfl
  | false => simp only [Bool.false_eq_true, false_and]; rfl
@[simp ↓] theorem kbme_join {z : Str} {m : Bool} {as : List CE} : Kbme1 C .join m as ε Q E (.str z) M ↔ Rp (evs C as ε M) (Kbme2 .join m (.str z) Q E) E := ⟨fun h => h.2, fun h => ⟨rfl, h⟩⟩
@[simp ↓] theorem kbme_split {z : Str} {m : Bool} {as : List CE} : Kbme1 C .split m as ε Q E (.str z) M ↔ Rp (evs C as ε M) (Kbme2 .split m (.str z) Q E) E := ⟨fun h => h.2, fun h => ⟨rfl, h⟩⟩
theorem kbme_list {b : BM} {m : Bool} {L : Nat} {as : List CE} (hb : ∀ xs, bmOk b (.lst xs) = true) (h : M[L]? = some (.lst xs)) : Kbme1 C b m as ε Q E (.ref L) M ↔ Rp (evs C as ε M) (Kbme2 b m (.ref L) Q E) E := by
  unfold Kbme1
  rw [rd_at h, hb]
  exact ⟨fun h => h.2, fun h => ⟨rfl, h⟩⟩
theorem rp_append {L : Nat} {m : Bool} (h : M[L]? = some (.lst xs)) (hl : xs.length < 16777216) (hq : Q .non (M.set L (.lst (xs ++ [v])))) : Rp (bmeth .append m (.ref L) [v] M) Q E := by
  have e : bmeth .append m (.ref L) [v] M = .ok .non (M.set L (.lst (xs ++ [v]))) := by
    simp only [bmeth, h]
    show WT.guard (decide (xs.length < sline)) _ = _
    rw [decide_eq_true (by exact hl)]
    rfl
  exact Rp.of e hq
/-! ### loops that test -/
def WWhl (C : Ctx) (c : CE) (body r : List CS) (ε : Env) (M : Mem) (P : Out → Prop) : Prop := Wp (exs C (.whl c body :: r) ε M) P
@[simp ↓] theorem wp_whlB {c : CE} {body : List CS} : Wp (exs C (.whl c body :: r) ε M) P ↔ WWhl C c body r ε M P := Iff.rfl
/-- behind the test of a loop, n turns left at most -/
def Kwhl (C : Ctx) (Inv : Nat → Env → Mem → Prop) (n : Nat) (body r : List CS) (ε : Env) (P : Out → Prop) (t : Bool) (M : Mem) : Prop := match t with
  | true => Wp (exs C body ε M) fun o => match o with
    | .nx ε2 M2 => ∃ m, m < n ∧ Inv m ε2 M2
    | .ct ε2 M2 => ∃ m, m < n ∧ Inv m ε2 M2
    | .bk ε2 M2 => Wp (exs C r ε2 M2) P
    | o => P o
  | false => Wp (exs C r ε M) P
def Kwb (C : Ctx) (Inv : Nat → Env → Mem → Prop) (n : Nat) (r : List CS) (P : Out → Prop) : Out → Prop
  | .nx ε2 M2 => ∃ m, m < n ∧ Inv m ε2 M2
  | .ct ε2 M2 => ∃ m, m < n ∧ Inv m ε2 M2
  | .bk ε2 M2 => Wp (exs C r ε2 M2) P
  | o => P o
section
variable {Inv : Nat → Env → Mem → Prop} {n : Nat} {body : List CS}
@[simp ↓] theorem kwhl_t : Kwhl C Inv n body r ε P true M ↔ Wp (exs C body ε M) (Kwb C Inv n r P) := by
  show Wp (exs C body ε M) _ ↔ _
  generalize exs C body ε M = o
  cases o <;> exact Iff.rfl
@[simp ↓] theorem kwhl_f : Kwhl C Inv n body r ε P false M ↔ Wp (exs C r ε M) P := Iff.rfl
@[simp ↓] theorem kwb_nx : Kwb C Inv n r P (.nx ε M) ↔ ∃ m, m < n ∧ Inv m ε M := Iff.rfl
@[simp ↓] theorem kwb_rt : Kwb C Inv n r P (.rt v M) ↔ P (.rt v M) := Iff.rfl
theorem whl_loop {c : CE} (st : ∀ n ε M, Inv n ε M → Rp (ev C c ε M) (Kt (Kwhl C Inv n body r ε P)) (Ker ε P)) : ∀ (w n : Nat) (ε : Env) (M : Mem), n < w → Inv n ε M → Wp ((whlLoop (fun ε M => (ev C c ε M).test) (fun ε M => exs C body ε M) w ε M).seq fun ε M => exs C r ε M) P
  | 0, n, ε, M, h, _ => by cases h
  | w + 1, n, ε, M, hw, hi => by
    have h := st n ε M hi
    rw [← rp_test] at h
    show Wp (((ev C c ε M).test.out ε fun b M => match b with
      | true => (match exs C body ε M with
        | .nx ε2 M2 => whlLoop (fun ε M => (ev C c ε M).test) (fun ε M => exs C body ε M) w ε2 M2
        | .ct ε2 M2 => whlLoop (fun ε M => (ev C c ε M).test) (fun ε M => exs C body ε M) w ε2 M2
        | .bk ε2 M2 => .nx ε2 M2
        | o => o)
      | false => .nx ε M).seq _) P
    revert h
    generalize (ev C c ε M).test = q
    cases q with
    | ok t N =>
      cases t with
      | false => exact fun h => h
      | true =>
        intro h
        have h := kwhl_t.mp h
        show Wp ((match exs C body ε N with
          | .nx ε2 M2 => whlLoop (fun ε M => (ev C c ε M).test) (fun ε M => exs C body ε M) w ε2 M2
          | .ct ε2 M2 => whlLoop (fun ε M => (ev C c ε M).test) (fun ε M => exs C body ε M) w ε2 M2
          | .bk ε2 M2 => .nx ε2 M2
          | o => o).seq _) P
        revert h
        generalize exs C body ε N = o
        cases o with
        | nx ε2 M2 => exact fun ⟨m, hm, h⟩ => whl_loop st w m ε2 M2 (by omega) h
        | ct ε2 M2 => exact fun ⟨m, hm, h⟩ => whl_loop st w m ε2 M2 (by omega) h
        | bk ε2 M2 => exact fun h => h
        | rt v M2 => exact fun h => h
        | er e ε2 M2 => exact fun h => h
        | stuck => exact fun h => h.elim
    | err e N => exact fun h => h
    | stuck => exact fun h => h.elim
/-- while c: body; Inv n: at most n turns are left -/
theorem wp_whl {c : CE} (Inv : Nat → Env → Mem → Prop) {n : Nat} (hn : n < C.w) (h0 : Inv n ε M) (st : ∀ n ε M, Inv n ε M → Rp (ev C c ε M) (Kt (Kwhl C Inv n body r ε P)) (Ker ε P)) : WWhl C c body r ε M P := whl_loop st C.w n ε M hn h0
end
/-! ### loops over what may be a cell -/
section
variable {Inv : Nat → Env → Mem → Prop}
theorem for_loopS {t : CT} {body : List CS} {src : List (Nat × List PV)} (hs : ∀ j ε N, Inv j ε N → still src N = true) : ∀ (xs : List PV) (k : Nat) (ε : Env) (M : Mem), Inv k ε M →
    (∀ j x ε N, xs[j]? = some x → Inv (k + j) ε N → ∃ ε1, bindT t x ε N = some ε1 ∧ Wp (exs C body ε1 N) (Kbody C Inv (k + j) r P)) → (∀ ε N, Inv (k + xs.length) ε N → Wp (exs C r ε N) P) → Wp ((forLoop t (fun ε M => exs C body ε M) src xs ε M).seq fun ε M => exs C r ε M) P
  | [], k, ε, M, h, _, he => by
    show Wp ((match still src M with
      | true => Out.nx ε M
      | false => .stuck).seq _) P
    rw [hs k ε M h]
    exact he ε M h
  | x :: l, k, ε, M, h, st, he => by
    obtain ⟨ε1, h1, h2⟩ := st 0 x ε M rfl h
    have go : ∀ ε2 M2, Inv (k + 1) ε2 M2 → Wp ((forLoop t (fun ε M => exs C body ε M) src l ε2 M2).seq fun ε M => exs C r ε M) P := fun ε2 M2 h3 => for_loopS hs l (k + 1) ε2 M2 h3 (fun j y ε N hj hp => by
      have := st (j + 1) y ε N (by simpa using hj) (by rwa [show k + (j + 1) = k + 1 + j by omega])
      rwa [show k + (j + 1) = k + 1 + j by omega] at this) (fun ε N hp => he ε N (by rwa [List.length_cons, show k + (l.length + 1) = k + 1 + l.length by omega]))
    show Wp ((match still src M, bindT t x ε M with
      | true, some ε1 => (match exs C body ε1 M with
        | .nx ε2 M2 => forLoop t (fun ε M => exs C body ε M) src l ε2 M2
        | .ct ε2 M2 => forLoop t (fun ε M => exs C body ε M) src l ε2 M2
        | .bk ε2 M2 => .nx ε2 M2
        | o => o)
      | _, _ => .stuck).seq _) P
    rw [h1, hs k ε M h]
    revert h2
    show Wp (exs C body ε1 M) _ → Wp ((match exs C body ε1 M with
        | .nx ε2 M2 => forLoop t (fun ε M => exs C body ε M) src l ε2 M2
        | .ct ε2 M2 => forLoop t (fun ε M => exs C body ε M) src l ε2 M2
        | .bk ε2 M2 => .nx ε2 M2
        | o => o).seq _) P
    generalize exs C body ε1 M = o
    cases o with
    | nx ε2 M2 => exact fun h => go ε2 M2 h
    | ct ε2 M2 => exact fun h => go ε2 M2 h
    | bk ε2 M2 => exact fun h => h
    | rt v M2 => exact fun h => h
    | er e ε2 M2 => exact fun h => h
    | stuck => exact fun h => h.elim
theorem wp_forS {t : CT} {it : CI} {body : List CS} (Inv : Nat → Env → Mem → Prop) (h : Rp (evi C it ε M) (fun its N => (∀ j ε N, Inv j ε N → still its.2 N = true) ∧ Inv 0 ε N ∧ (∀ j x ε N, its.1[j]? = some x → Inv j ε N → ∃ ε1, bindT t x ε N = some ε1 ∧ Wp (exs C body ε1 N) (Kbody C Inv j r P)) ∧ (∀ ε N, Inv its.1.length ε N → Wp (exs C r ε N) P)) (Ker ε P)) : WFor C t it body r ε M P := by
  unfold WFor
  rw [xs_cons]
  show Wp (((evi C it ε M).out ε _).seq _) P
  revert h
  generalize evi C it ε M = q
  cases q with
  | ok its N =>
    rintro ⟨h1, h2, h3, h4⟩
    exact for_loopS h1 its.1 0 ε N h2 (fun j x ε N hj hp => by
      have := h3 j x ε N hj (by simpa using hp)
      simpa using this) (fun ε N hp => h4 ε N (by simpa using hp))
  | err e N => exact fun h => h
  | stuck => exact fun h => h.elim
end
def Kenm (Q : Items → Mem → Prop) (v : PV) (M : Mem) : Prop := match enSrc M v with
  | some it => Q (enumFrom 0 it.1, it.2) M
  | none => False
@[simp ↓] theorem kenmT {Q : Items → Mem → Prop} : Kenm Q (.tup xs) M ↔ Q (enumFrom 0 xs, []) M := Iff.rfl
@[simp ↓] theorem kenmL {Q : Items → Mem → Prop} : Kenm Q (.lst xs) M ↔ Q (enumFrom 0 xs, []) M := Iff.rfl
@[simp ↓] theorem rp_enm2 {Q : Items → Mem → Prop} {E : PV → Mem → Prop} {e : CE} : Rp (evi C (.enm2 e) ε M) Q E ↔ Rp (ev C e ε M) (Kenm Q) E := by
  show Rp ((ev C e ε M).bind _) Q E ↔ _
  rw [rp_bind]
  refine iff_of_eq (congrArg (fun K => Rp (ev C e ε M) K E) (funext fun x => funext fun N => ?_))
  unfold Kenm
  cases enSrc N x <;> rfl
@[simp] theorem enum_len : ∀ {xs : List PV} {n : Int}, (enumFrom n xs).length = xs.length
  | [], _ => rfl
  | x :: r, n => by show (enumFrom (n + 1) r).length + 1 = r.length + 1; rw [enum_len]
end
end
end WT
set_option maxRecDepth 100000
set_option autoImplicit false
/-! More rules: lists in cells, sorted, texts cut and joined, own operators, dicts made by two loops. -/
namespace WT
noncomputable section
open PySem (Str CmpOp Operator PyData)
/-- v is a list or a tuple of xs -/
def Sq (M : Mem) (v : PV) (xs : List PV) : Prop := v = .lst xs ∨ v = .tup xs ∨ ∃ L, v = .ref L ∧ M[L]? = some (.lst xs)
theorem Sq.src {M : Mem} {v : PV} {xs : List PV} (h : Sq M v xs) : ∃ src, srcOf M v = some (xs, src) ∧ ∀ p ∈ src, M[p.1]? = some (.lst p.2) := by
  rcases h with rfl | rfl | ⟨L, rfl, h⟩
  · exact ⟨[], rfl, fun p hp => by cases hp⟩
  · exact ⟨[], rfl, fun p hp => by cases hp⟩
  · refine ⟨[(L, xs)], ?_, fun p hp => ?_⟩
    · show (match M[L]? with
        | some (.lst xs) => some (xs, [(L, xs)])
        | _ => none) = _
      rw [h]
    · rw [List.mem_singleton.mp hp]
      exact h
theorem Sq.rd {M : Mem} {v : PV} {xs : List PV} (h : Sq M v xs) : rd M v = .lst xs ∨ rd M v = .tup xs := by
  rcases h with rfl | rfl | ⟨L, rfl, h⟩
  · exact .inl rfl
  · exact .inr rfl
  · exact .inl (rd_at h)
theorem still_of {M : Mem} {src : List (Nat × List PV)} (h : ∀ p ∈ src, M[p.1]? = some (.lst p.2)) : still src M = true := by
  unfold still
  rw [List.all_eq_true]
  intro p hp
  rw [h p hp]
  exact PV.beqs_refl _
theorem Sq.app {M K : Mem} {v : PV} {xs : List PV} (h : Sq M v xs) : Sq (M ++ K) v xs := by
  rcases h with h | h | ⟨L, h1, h2⟩
  · exact .inl h
  · exact .inr (.inl h)
  · exact .inr (.inr ⟨L, h1, by rw [List.getElem?_append_left (List.getElem?_eq_some_iff.mp h2).1]; exact h2⟩)
/-! ### kinds, lengths -/
section
variable {C : Ctx} {ε : Env} {M N : Mem} {Q E : PV → Mem → Prop} {K : Bool → Mem → Prop} {v x y : PV} {vs xs ys : List PV} {P : Out → Prop} {r : List CS}
theorem kisi_sq (h : Sq M v xs) : Kisi C [.ty "list", .ty "tuple"] Q v M ↔ Q (.bl true) M := by
  refine kisi (b := true) ?_
  show ((vtOf (rd M v)).bind fun k => isVT C.G k (.ty "list")).bind (fun b => if b then some true else isAny C.G M v [.ty "tuple"]) = _
  rcases h.rd with e | e
  · rw [e]; rfl
  · rw [e]
    show isAny C.G M v [.ty "tuple"] = _
    show ((vtOf (rd M v)).bind fun k => isVT C.G k (.ty "tuple")).bind (fun b => if b then some true else some false) = _
    rw [e]; rfl
theorem rp_lenQ {m : Bool} (h : Sq M v xs) : Rp (bfn .len m [v] M) Q E ↔ Q (.int (xs.length : Int)) M := by
  have e : bfn .len m [v] M = .ok (.int (xs.length : Int)) M := by
    show ofOpt M ((match rd M v with
      | .str z => some z.length
      | .lst xs => some xs.length
      | .tup xs => some xs.length
      | .dic kvs => some kvs.length
      | _ => none).map fun n => .int n) = _
    rcases h.rd with e | e <;> rw [e] <;> rfl
  rw [e]
  exact Iff.rfl
theorem kofQ {Q : Items → Mem → Prop} {src : List (Nat × List PV)} (h : srcOf M v = some (xs, src)) : Kof Q v M ↔ Q (xs, src) M := by
  unfold Kof
  rw [h]
@[simp ↓] theorem rp_strOfS {m : Bool} {z : Str} : Rp (bfn .strOf m [.str z] M) Q E ↔ Q (.str z) M := Iff.rfl
theorem rp_sortS {ss : List Str} (h : ss.length < 64) (hq : Q (.lst ((sortS ss).map .str)) M) : Rp (bfn .sortedOf false [.lst (ss.map .str)] M) Q E := by
  refine Rp.of (v := .lst ((sortS ss).map .str)) (M := M) ?_ hq
  show (match (some (ss.map PV.str)).bind strsOf with
    | some ns => guard (decide (ns.length < 64)) (mkL false ((sortS ns).map .str) M)
    | none => _) = _
  rw [Option.bind_some, strsOf_map]
  show guard (decide (ss.length < 64)) _ = _
  rw [decide_eq_true h]
  rfl
theorem intsOf_map : ∀ xs : List Int, intsOf (xs.map .int) = some xs
  | [] => rfl
  | x :: r => by show (intsOf (r.map .int)).map (x :: ·) = _; rw [intsOf_map r]; rfl
theorem rp_sortI {ss : List Int} (hq : Q (.lst ((sortI ss).map .int)) M) : Rp (bfn .sortedOf false [.lst (ss.map .int)] M) Q E := by
  refine Rp.of (v := .lst ((sortI ss).map .int)) (M := M) ?_ hq
  cases ss with
  | nil => rfl
  | cons a r =>
    show (match (intsOf ((a :: r).map .int)) with
      | some ns => mkL false ((sortI ns).map .int) M
      | none => .stuck) = _
    rw [intsOf_map]
    rfl
/-! ### in -/
theorem flat_strs (ss : List Str) : (ss.map PV.str).all flatP = true := by induction ss with
  | nil => rfl
  | cons a r ih => show (true && (r.map PV.str).all flatP) = true; rw [ih]; rfl
theorem flat_ints (ss : List Int) : (ss.map PV.int).all flatP = true := by induction ss with
  | nil => rfl
  | cons a r ih => show (true && (r.map PV.int).all flatP) = true; rw [ih]; rfl
theorem any_strs (ss : List Str) (x : Str) : ((ss.map PV.str).any fun z => eqF z (.str x)) = decide (x ∈ ss) := by induction ss with
  | nil => rfl
  | cons a r ih =>
    show ((a == x) || ((r.map PV.str).any fun z => eqF z (.str x))) = _
    rw [ih, Bool.eq_iff_iff, Bool.or_eq_true, decide_eq_true_eq, decide_eq_true_eq, List.mem_cons, beq_iff_eq, eq_comm]
theorem any_ints (ss : List Int) (x : Int) : ((ss.map PV.int).any fun z => eqF z (.int x)) = decide (x ∈ ss) := by induction ss with
  | nil => rfl
  | cons a r ih =>
    show ((a == x) || ((r.map PV.int).any fun z => eqF z (.int x))) = _
    rw [ih, Bool.eq_iff_iff, Bool.or_eq_true, decide_eq_true_eq, decide_eq_true_eq, List.mem_cons, beq_iff_eq, eq_comm]
theorem isIn_sq (h : Sq M y xs) : isIn M x y = inSeq M x y xs := by
  unfold isIn
  rcases h.rd with e | e <;> rw [e]
theorem rp_inS {s : Str} {ss : List Str} (h : Sq M y (ss.map .str)) : Rp (cmpop C .In (.str s) y M) Q E ↔ Q (.bl (decide (s ∈ ss))) M := by
  have e : cmpop C .In (.str s) y M = .ok (.bl (decide (s ∈ ss))) M := by
    show ofOpt M ((isIn M (.str s) y).map .bl) = _
    rw [isIn_sq h]
    unfold inSeq
    rw [flat_strs]
    show ofOpt M ((some ((ss.map PV.str).any fun z => eqF z (.str s))).map .bl) = _
    rw [any_strs]
    rfl
  rw [e]
  exact Iff.rfl
theorem rp_inI {s : Int} {ss : List Int} (h : Sq M y (ss.map .int)) : Rp (cmpop C .In (.int s) y M) Q E ↔ Q (.bl (decide (s ∈ ss))) M := by
  have e : cmpop C .In (.int s) y M = .ok (.bl (decide (s ∈ ss))) M := by
    show ofOpt M ((isIn M (.int s) y).map .bl) = _
    rw [isIn_sq h]
    unfold inSeq
    rw [flat_ints]
    show ofOpt M ((some ((ss.map PV.int).any fun z => eqF z (.int s))).map .bl) = _
    rw [any_ints]
    rfl
  rw [e]
  exact Iff.rfl
/-! ### texts joined, cut -/
theorem join_len (y : Str) (ps : List Str) : (PySem.Txt.join y ps).length = (ps.map Str.length).sum + (ps.length - 1) * y.length := PySem.size_glued y ps
theorem rp_join {z : Str} {ss : List Str} {m : Bool} (hx : x = .lst (ss.map .str) ∨ x = .tup (ss.map .str)) (h : (ss.map Str.length).sum + ss.length * z.length ≤ 16777216) (hq : Q (.str (PySem.Txt.join z ss)) M) : Rp (bmeth .join m (.str z) [x] M) Q E := by
  refine Rp.of (v := .str (PySem.Txt.join z ss)) (M := M) ?_ hq
  have e : (seqOf M x).bind strsOf = some ss := by
    rcases hx with rfl | rfl <;> exact strsOf_map ss
  show (match (seqOf M x).bind strsOf with
    | some xs => guard (decide ((xs.map Str.length).sum + xs.length * z.length ≤ sline) && decide ((PySem.Txt.join z xs).length ≤ sline)) (.ok (.str (PySem.Txt.join z xs)) M)
    | none => .stuck) = _
  rw [e]
  show guard (decide ((ss.map Str.length).sum + ss.length * z.length ≤ sline) && decide ((PySem.Txt.join z ss).length ≤ sline)) _ = _
  have hj := join_len z ss
  have : (ss.length - 1) * z.length ≤ ss.length * z.length := Nat.mul_le_mul_right _ (by omega)
  rw [decide_eq_true (by unfold sline; exact h), decide_eq_true (by unfold sline; omega)]
  rfl
theorem rp_split {z y : Str} (h0 : 0 < y.length) (h : z.length ≤ 1000000) (hs : ∀ w ∈ PySem.Txt.split z y, w.length ≤ 1000000) (hl : (PySem.Txt.split z y).length ≤ 1000000) (hq : Q (.lst ((PySem.Txt.split z y).map .str)) M) : Rp (bmeth .split false (.str z) [.str y] M) Q E := by
  refine Rp.of (v := .lst ((PySem.Txt.split z y).map .str)) (M := M) ?_ hq
  show guard (decide (z.length + 2 ≤ sline) && decide (0 < y.length) && decide ((PySem.Txt.split z y).length ≤ sline) && (PySem.Txt.split z y).all fun w => decide (w.length ≤ sline)) _ = _
  rw [decide_eq_true (show z.length + 2 ≤ sline by unfold sline; omega), decide_eq_true h0, decide_eq_true (show _ ≤ sline by unfold sline; omega), (List.all_eq_true.mpr fun w hw => decide_eq_true (show w.length ≤ sline by have := hs w hw; unfold sline; omega))]
  rfl
theorem rp_extend {L : Nat} {m : Bool} (h : M[L]? = some (.lst xs)) (hl : xs.length + ys.length ≤ 16777216) (hq : Q .non (M.set L (.lst (xs ++ ys)))) : Rp (bmeth .extend m (.ref L) [.lst ys] M) Q E := by
  have e : bmeth .extend m (.ref L) [.lst ys] M = .ok .non (M.set L (.lst (xs ++ ys))) := by
    have : rd M (.lst ys) = .lst ys := rfl
    simp only [bmeth, h, this]
    show WT.guard (decide (xs.length + ys.length ≤ sline)) _ = _
    rw [decide_eq_true (by exact hl)]
    rfl
  exact Rp.of e hq
/-! ### own values: methods, operators, == -/
def Kmet (C : Ctx) (k : Nat) (as : List CE) (ε : Env) (Q E : PV → Mem → Prop) (x : PV) (M : Mem) : Prop := Rp (match rd M x with
    | .ins c fs => (match C.G.meths.lookup (c, k), fs.lookup k with
      | some f, none => (evs C as ε M).bind fun vs M => C.call f (x :: vs) M
      | _, _ => .stuck)
    | _ => .stuck) Q E
@[simp ↓] theorem rp_met {o : CE} {k : Nat} {as : List CE} : Rp (ev C (.met o k as) ε M) Q E ↔ Rp (ev C o ε M) (Kmet C k as ε Q E) E := by
  show Rp ((ev C o ε M).bind _) Q E ↔ _
  rw [rp_bind]
  exact Iff.rfl
theorem kmet {c k f : Nat} {as : List CE} {fs : List (Nat × PV)} (h0 : rd M x = .ins c fs) (h1 : C.G.meths.lookup (c, k) = some f) (h2 : fs.lookup k = none) : Kmet C k as ε Q E x M ↔ Rp ((evs C as ε M).bind fun vs M => C.call f (x :: vs) M) Q E := by
  unfold Kmet
  rw [h0]
  simp only [h1, h2]
def KopO2 (C : Ctx) (k : Nat) (x : PV) (Q E : PV → Mem → Prop) (y : PV) (M : Mem) : Prop := Rp (match rd M x, rd M y with
    | .ins c _, .ins d _ => (match c == d, C.G.meths.lookup (c, k) with
      | true, some f => C.call f [x, y] M
      | _, _ => .stuck)
    | _, _ => .stuck) Q E
def KopO1 (C : Ctx) (k : Nat) (b : CE) (ε : Env) (Q E : PV → Mem → Prop) (x : PV) (M : Mem) : Prop := Rp (ev C b ε M) (KopO2 C k x Q E) E
@[simp ↓] theorem kopO1 {k : Nat} {b : CE} : KopO1 C k b ε Q E x M ↔ Rp (ev C b ε M) (KopO2 C k x Q E) E := Iff.rfl
@[simp ↓] theorem rp_opO {k : Nat} {a b : CE} : Rp (ev C (.opO k a b) ε M) Q E ↔ Rp (ev C a ε M) (KopO1 C k b ε Q E) E := by
  show Rp ((ev C a ε M).bind _) Q E ↔ _
  rw [rp_bind]
  unfold KopO1
  simp only [rp_bind]
  exact Iff.rfl
theorem kopO2 {c k f : Nat} {fs gs : List (Nat × PV)} (h0 : rd M x = .ins c fs) (h1 : rd M y = .ins c gs) (h2 : C.G.meths.lookup (c, k) = some f) : KopO2 C k x Q E y M ↔ Rp (C.call f [x, y] M) Q E := by
  unfold KopO2
  rw [h0, h1]
  simp only [h2, beq_self_eq_true]
theorem rp_neO {c f : Nat} {b : Bool} {fs : List (Nat × PV)} (h0 : rd M x = .ins c fs) (h1 : C.G.eqs.lookup c = some f) (h2 : known C.G M y = true) (h3 : C.call f [x, y] M = .ok (.bl b) M) : Rp (cmpop C .NotEq x y M) Q E ↔ Q (.bl (!b)) M := by
  have e : cmpop C .NotEq x y M = .ok (.bl (!b)) M := by
    show cmpNe C x y M = _
    unfold cmpNe
    rw [h0]
    show neOwn C c x y M = _
    unfold neOwn
    simp only [h1, h2, h3]
  rw [e]
  exact Iff.rfl
theorem rp_eqO {c f : Nat} {b : Bool} {fs : List (Nat × PV)} (h0 : rd M x = .ins c fs) (h1 : C.G.eqs.lookup c = some f) (h2 : known C.G M y = true) (h3 : C.call f [x, y] M = .ok (.bl b) M) : Rp (cmpop C .Eq x y M) Q E ↔ Q (.bl b) M := by
  have e : cmpop C .Eq x y M = .ok (.bl b) M := by
    show cmpEq C x y M = _
    unfold cmpEq
    rw [h0]
    show eqOwn C c x y M = _
    unfold eqOwn
    simp only [h1, h2, h3]
  rw [e]
  exact Iff.rfl
/-- a list in a cell, against [] -/
theorem eq_nilQ {L : Nat} (h : M[L]? = some (.lst xs)) (ho : okPs xs = true) (hd : dpPs xs ≤ 60) : eqData M (.ref L) (.lst []) = some xs.isEmpty := by
  obtain ⟨ds, e, h1, h2, _⟩ := okPs_deep xs ho
  have e1 : deep M (.ref L) = some (.list ds) := by
    show cellD _ M[L]? = _
    rw [h]
    show (deepWs _ xs).map PyData.list = _
    rw [e]
    rfl
  have e2 : PySem.SeqAt.shaped (.list ds) = true := by
    unfold PySem.SeqAt.shaped
    rw [Bool.and_eq_true]
    refine ⟨h1, decide_eq_true ?_⟩
    show PyData.depthAll ds + 1 ≤ 64
    omega
  have e0 : eqData M (.ref L) (.lst []) = (deep M (.ref L)).bind fun d => (deep M (.lst [])).bind fun e => if PySem.SeqAt.shaped d && PySem.SeqAt.shaped e then some (PyData.eqv d e) else none := by
    unfold eqData
    rw [rd_at h]
  rw [e0, e1]
  show (if PySem.SeqAt.shaped (.list ds) && PySem.SeqAt.shaped (.list []) then some (PyData.eqv (.list ds) (.list [])) else none) = _
  rw [e2]
  show some (PyData.eqv (.list ds) (.list [])) = _
  have hl : xs.isEmpty = ds.isEmpty := by
    cases xs with
    | nil =>
      have := e (fun _ => none)
      cases this
      rfl
    | cons a r =>
      have := e (fun _ => none)
      cases ds with
      | cons _ _ => rfl
      | nil =>
        refine absurd ?_ (id : ¬ False)
        have : ((deepW (fun _ => none) a).bind fun d => (deepWs (fun _ => none) r).map fun ds => d :: ds) = some [] := this
        cases h3 : deepW (fun _ => none) a with
        | none => rw [h3] at this; cases this
        | some d =>
          rw [h3] at this
          cases h4 : deepWs (fun _ => none) r with
          | none => rw [h4] at this; cases this
          | some l => rw [h4] at this; cases this
  rw [hl]
  cases ds <;> rfl
theorem rp_neNilR {L : Nat} (h : M[L]? = some (.lst xs)) (ho : okPs xs = true) (hd : dpPs xs ≤ 60) : Rp (cmpop C .NotEq (.ref L) (.lst []) M) Q E ↔ Q (.bl (!xs.isEmpty)) M :=
  rp_neD (fun c fs h' => by rw [rd_at h] at h'; cases h') (fun c fs h => by cases h) (eq_nilQ h ho hd)
theorem rp_neNilS {ss : List Str} (h : ∀ x ∈ ss, PyData.strOk x = true) : Rp (cmpop C .NotEq (.lst (ss.map .str)) (.lst []) M) Q E ↔ Q (.bl (!ss.isEmpty)) M :=
  rp_neD (fun c fs h => by cases h) (fun c fs h => by cases h) (eq_strs_nil h)
/-! ### comprehensions over what may be a cell -/
theorem lc_pure_loopS {own : List Nat} {t : CT} {ce : CE} {f : PV → PV} {src : List (Nat × List PV)} (hs : ∀ p ∈ src, M[p.1]? = some (.lst p.2)) : ∀ (xs : List PV) (acc : List PV), acc.length + xs.length ≤ sline →
    (∀ x ∈ xs, ∀ acc, ∃ ε1, bindT t x (wipeE ε own) (M ++ [Cell.lst acc]) = some ε1 ∧ ev C ce ε1 (M ++ [Cell.lst acc]) = .ok (f x) (M ++ [Cell.lst acc])) →
    lcLoop own t (fun _ M => .ok true M) (fun ε M => ev C ce ε M) src ε M.length xs (M ++ [Cell.lst acc]) = .ok () (M ++ [Cell.lst (acc ++ xs.map f)])
  | [], acc, _, _ => by
    show (match still src (M ++ [Cell.lst acc]) with
      | true => Res.ok () (M ++ [Cell.lst acc])
      | false => .stuck) = _
    rw [still_of fun p hp => by rw [List.getElem?_append_left (List.getElem?_eq_some_iff.mp (hs p hp)).1]; exact hs p hp]
    simp
  | x :: r, acc, hl, hb => by
    obtain ⟨ε1, h1, h2⟩ := hb x List.mem_cons_self acc
    simp only [List.length_cons] at hl
    have ih := lc_pure_loopS (own := own) (t := t) (ce := ce) (f := f) hs r (acc ++ [f x]) (by rw [List.length_append, List.length_singleton]; omega) fun y hy => hb y (List.mem_cons_of_mem _ hy)
    show (match still src (M ++ [Cell.lst acc]), bindT t x (wipeE ε own) (M ++ [Cell.lst acc]) with
        | true, some ε1 => (match ev C ce ε1 (M ++ [Cell.lst acc]) with
            | .ok v M2 => (match M2[M.length]? with
              | some (.lst acc) => (match decide (acc.length < sline) with
                | true => lcLoop own t (fun _ M => .ok true M) (fun ε M => ev C ce ε M) src ε M.length r (M2.set M.length (.lst (acc ++ [v])))
                | false => .stuck)
              | _ => .stuck)
            | _ => .stuck)
        | _, _ => .stuck) = _
    rw [still_of fun p hp => by rw [List.getElem?_append_left (List.getElem?_eq_some_iff.mp (hs p hp)).1]; exact hs p hp, h1]
    simp only [h2]
    rw [show (M ++ [Cell.lst acc])[M.length]? = some (.lst acc) by simp]
    simp only [decide_eq_true (show acc.length < sline by omega)]
    rw [show (M ++ [Cell.lst acc]).set M.length (.lst (acc ++ [f x])) = M ++ [Cell.lst (acc ++ [f x])] by simp, ih]
    simp
theorem rp_lcQ {own : List Nat} {t : CT} {ce e : CE} (f : PV → PV) (h : Rp (ev C e ε M) (fun v N => N = M ∧ ∃ xs, Sq M v xs ∧ xs.length ≤ sline ∧ (∀ x ∈ xs, (f x).lt M.length = true) ∧ (∀ x ∈ xs, ∀ acc, ∃ ε1, bindT t x (wipeE ε own) (M ++ [Cell.lst acc]) = some ε1 ∧ ev C ce ε1 (M ++ [Cell.lst acc]) = .ok (f x) (M ++ [Cell.lst acc])) ∧ Q (.lst (xs.map f)) M) E) : RLc C false own ce t (.of e) [] ε M Q E := by
  show Rp ((evi C (.of e) ε M).bind _) Q E
  rw [rp_bind, rp_of]
  revert h
  generalize ev C e ε M = q
  cases q with
  | ok v N =>
    rintro ⟨rfl, xs, h1, h2, h3, h4, h5⟩
    obtain ⟨src, e1, hs⟩ := h1.src
    rw [rp_ok, kofQ e1]
    show Rp ((lcLoop own t (fun _ M => .ok true M) (fun ε M => ev C ce ε M) src ε N.length xs (N ++ [Cell.lst []])).bind fun _ M1 => lcEnd false N M1) Q E
    rw [lc_pure_loopS hs xs [] (by simpa using h2) h4]
    show Rp (lcEnd false N (N ++ [Cell.lst ([] ++ xs.map f)])) Q E
    rw [List.nil_append, lcEnd_of (lts_of fun y hy => by
      obtain ⟨x, hx, rfl⟩ := List.mem_map.mp hy
      exact h3 x hx)]
    exact h5
  | err e N => exact fun h => h
  | stuck => exact fun h => h.elim
end
/-! ### loops over what may be a cell -/
theorem Sq.still {M N : Mem} {v : PV} {xs ys : List PV} {src : List (Nat × List PV)} (h : srcOf M v = some (xs, src)) (h1 : Sq N v ys) (h0 : Sq M v ys) : xs = ys ∧ WT.still src N = true := by
  obtain ⟨src0, e, hs⟩ := h0.src
  rw [h] at e
  cases e
  refine ⟨rfl, ?_⟩
  rcases h0 with rfl | rfl | ⟨L, rfl, hL⟩
  · cases h; rfl
  · cases h; rfl
  · have h : (match M[L]? with
      | some (.lst xs) => some (xs, [(L, xs)])
      | _ => none) = some (xs, src) := h
    rw [hL] at h
    cases h
    rcases h1 with e | e | ⟨L', e, hL'⟩
    · cases e
    · cases e
    · cases e
      exact still_of fun p hp => by rw [List.mem_singleton.mp hp]; exact hL'
section
variable {C : Ctx} {ε : Env} {M : Mem} {P : Out → Prop} {r : List CS}
/-- for t in e: body, where e is a list or a tuple -/
theorem wp_forQ {t : CT} {e : CE} {body : List CS} (Inv : Nat → Env → Mem → Prop) (h : Rp (ev C e ε M) (fun v N => ∃ xs, Sq N v xs ∧ (∀ j ε N', Inv j ε N' → Sq N' v xs) ∧ Inv 0 ε N ∧ (∀ j x ε N, xs[j]? = some x → Inv j ε N → ∃ ε1, bindT t x ε N = some ε1 ∧ Wp (exs C body ε1 N) (Kbody C Inv j r P)) ∧ (∀ ε N, Inv xs.length ε N → Wp (exs C r ε N) P)) (Ker ε P)) : WFor C t (.of e) body r ε M P := by
  refine wp_forS Inv ?_
  rw [rp_of]
  revert h
  generalize ev C e ε M = q
  cases q with
  | ok v N =>
    rintro ⟨xs, h1, h2, h3, h4, h5⟩
    obtain ⟨src, e1, _⟩ := h1.src
    rw [rp_ok, kofQ e1]
    exact ⟨fun j ε N' hI => ((h2 j ε N' hI).still e1 h1).2, h3, h4, h5⟩
  | err e N => exact fun h => h
  | stuck => exact fun h => h.elim
end
/-- a cell of texts; of numbers -/
def cellS (ss : List Str) : Cell := .lst (ss.map .str)
def cellI (ss : List Int) : Cell := .lst (ss.map .int)
section
variable {C : Ctx} {ε : Env} {M : Mem} {Q E : PV → Mem → Prop} {ss : List Str} {ns : List Int} {m : Bool} {as : List CE}
theorem cellS_at : (M ++ [cellS ss])[M.length]? = some (.lst (ss.map .str)) := by rw [List.getElem?_append_right (Nat.le_refl _), Nat.sub_self]; rfl
theorem cellI_at : (M ++ [cellI ns])[M.length]? = some (.lst (ns.map .int)) := by rw [List.getElem?_append_right (Nat.le_refl _), Nat.sub_self]; rfl
theorem rp_appS {s : Str} (hl : ss.length < 16777216) (hq : Q .non (M ++ [cellS (ss ++ [s])])) : Rp (bmeth .append m (.ref M.length) [.str s] (M ++ [cellS ss])) Q E := by
  refine rp_append cellS_at (by rw [List.length_map]; exact hl) ?_
  have e : (M ++ [cellS ss]).set M.length (.lst (ss.map .str ++ [.str s])) = M ++ [cellS (ss ++ [s])] := by
    rw [List.set_append_right _ _ (Nat.le_refl _), Nat.sub_self]
    unfold cellS
    rw [List.map_append]
    rfl
  rw [e]
  exact hq
theorem rp_appI {s : Int} (hl : ns.length < 16777216) (hq : Q .non (M ++ [cellI (ns ++ [s])])) : Rp (bmeth .append m (.ref M.length) [.int s] (M ++ [cellI ns])) Q E := by
  refine rp_append cellI_at (by rw [List.length_map]; exact hl) ?_
  have e : (M ++ [cellI ns]).set M.length (.lst (ns.map .int ++ [.int s])) = M ++ [cellI (ns ++ [s])] := by
    rw [List.set_append_right _ _ (Nat.le_refl _), Nat.sub_self]
    unfold cellI
    rw [List.map_append]
    rfl
  rw [e]
  exact hq
end
section
variable {C : Ctx} {ε : Env} {M : Mem} {P : Out → Prop} {r : List CS}
/-- a field is stored: to be opened by what stands in the cell -/
def WSetf (C : Ctx) (o : CE) (k : Nat) (e : CE) (r : List CS) (ε : Env) (M : Mem) (P : Out → Prop) : Prop := Wp (exs C (.setf o k e :: r) ε M) P
@[simp ↓] theorem wp_setfB {o : CE} {k : Nat} {e : CE} : Wp (exs C (.setf o k e :: r) ε M) P ↔ WSetf C o k e r ε M P := Iff.rfl
/-- a field of the instance in the last cell -/
theorem wp_setF {c k i : Nat} {e : CE} {fs : List (Nat × PV)} (h : Rp (ev C e ε (M ++ [Cell.ins c fs])) (fun v N => N = M ++ [Cell.ins c fs] ∧ ε[i]? = some (some (.ref M.length)) ∧ (decide (fs.length < 1000) && C.G.flds.contains (c, k)) = true ∧ Wp (exs C r ε (M ++ [Cell.ins c (putF k v fs)])) P) (Ker ε P)) : WSetf C (.loc i) k e r ε (M ++ [Cell.ins c fs]) P := by
  refine wp_setf (L := M.length) (c := c) (fs := fs) ?_
  revert h
  generalize ev C e ε (M ++ [Cell.ins c fs]) = q
  cases q with
  | ok v N =>
    rintro ⟨rfl, h1, h2, h3⟩
    refine ⟨h1, by rw [List.getElem?_append_right (Nat.le_refl _), Nat.sub_self]; rfl, h2, ?_⟩
    rw [List.set_append_right _ _ (Nat.le_refl _), Nat.sub_self]
    exact h3
  | err e N => exact fun h => h
  | stuck => exact fun h => h.elim
end
theorem rd_ins {M : Mem} {c : Nat} (fs : List (Nat × PV)) : rd (M ++ [Cell.ins c fs]) (.ref M.length) = .ins c fs := by
  show (match (M ++ [Cell.ins c fs])[M.length]? with
    | some (.lst xs) => PV.lst xs
    | some (.dic kvs) => .dic kvs
    | some (.ins c fs) => .ins c fs
    | _ => .ref M.length) = _
  rw [List.getElem?_append_right (Nat.le_refl _), Nat.sub_self]
  rfl
end
end WT
set_option maxRecDepth 100000
set_option autoImplicit false
/-! More rules: dicts made by two loops, comprehensions whose test draws. -/
namespace WT
noncomputable section
open PySem (Str CmpOp Operator PyData)
/-- the pairs of a row's names -/
def rowKV (j : Int) (ss : List Str) : List (PV × PV) := ss.map fun s => (.str s, .int j)
def numsKV (j : Int) : List (List Str) → List (PV × PV)
  | [] => []
  | r :: rs => rowKV j r ++ numsKV (j + 1) rs
def rowT (ss : List Str) : PV := .tup (ss.map .str)
theorem any_kv (s : Str) : ∀ l : List (PV × PV), (∀ p ∈ l, ∃ u, p.1 = .str u ∧ u ≠ s) → (l.any fun kv => eqK kv.1 (.str s)) = false
  | [], _ => rfl
  | p :: r, h => by
    obtain ⟨u, h1, h2⟩ := h p List.mem_cons_self
    show (eqK p.1 (.str s) || r.any fun kv => eqK kv.1 (.str s)) = false
    rw [any_kv s r fun q hq => h q (List.mem_cons_of_mem _ hq), h1]
    show ((u == s) || false) = false
    rw [Bool.or_false, beq_eq_false_iff_ne]
    exact h2
theorem put_new {s : Str} {v : PV} {l : List (PV × PV)} (h : ∀ p ∈ l, ∃ u, p.1 = .str u ∧ u ≠ s) : putKV (.str s) v l = l ++ [(.str s, v)] := by
  unfold putKV
  rw [any_kv s l h]
/-- keys: texts out of a list -/
def KeysIn (ks : List Str) (l : List (PV × PV)) : Prop := ∀ p ∈ l, ∃ u, p.1 = .str u ∧ u ∈ ks
theorem row_fold (j : Int) : ∀ (ss : List Str) (ks : List Str) (acc : List (PV × PV)), KeysIn ks acc → (ks ++ ss).Nodup → (ss.map PV.str).foldl (fun acc x => putKV x (.int j) acc) acc = acc ++ rowKV j ss ∧ KeysIn (ks ++ ss) (acc ++ rowKV j ss)
  | [], ks, acc, h, _ => ⟨by simp [rowKV], by simpa [rowKV] using h⟩
  | s :: r, ks, acc, h, hn => by
    have hs : ∀ p ∈ acc, ∃ u, p.1 = .str u ∧ u ≠ s := fun p hp => by
      obtain ⟨u, h1, h2⟩ := h p hp
      refine ⟨u, h1, fun e => ?_⟩
      rw [e] at h2
      exact (List.nodup_append.mp hn).2.2 s h2 s List.mem_cons_self rfl
    have h' : KeysIn (ks ++ [s]) (acc ++ [(.str s, .int j)]) := fun p hp => by
      rcases List.mem_append.mp hp with hp | hp
      · obtain ⟨u, h1, h2⟩ := h p hp
        exact ⟨u, h1, List.mem_append.mpr (.inl h2)⟩
      · rw [List.mem_singleton.mp hp]
        exact ⟨s, rfl, by simp⟩
    obtain ⟨e1, e2⟩ := row_fold j r (ks ++ [s]) (acc ++ [(.str s, .int j)]) h' (by rw [List.append_assoc]; exact hn)
    rw [List.append_assoc] at e1 e2
    rw [List.append_assoc] at e2
    refine ⟨?_, e2⟩
    show (r.map PV.str).foldl _ (putKV (.str s) (.int j) acc) = _
    rw [put_new hs, e1]
    rfl

section
variable {C : Ctx} {M : Mem} {o0 o1 o2 o3 o4 o5 o6 o7 : Option PV}
/-- the inner loop: names of one row -/
theorem row_loop {j : Int} {row : PV} : ∀ (ss : List Str) (acc : List (PV × PV)) (o4 : Option PV), acc.length + ss.length ≤ 1000 →
    dcLoop [4] (.nm 4) (fun ε M => ev C (.loc 4) ε M) (fun ε M => ev C (.loc 6) ε M) [] [o0, o1, o2, o3, o4, o5, some (.int j), some row] M.length (ss.map .str) (M ++ [Cell.dic acc]) = .ok () (M ++ [Cell.dic ((ss.map PV.str).foldl (fun acc x => putKV x (.int j) acc) acc)])
  | [], acc, _, _ => rfl
  | s :: r, acc, o4, hl => by
    simp only [List.length_cons] at hl
    have hput : (putKV (.str s) (.int j) acc).length ≤ acc.length + 1 := by
      unfold putKV
      split
      · rw [List.length_map]; omega
      · rw [List.length_append]; simp
    have ih := row_loop (j := j) (row := row) r (putKV (.str s) (.int j) acc) o4 (by omega)
    have hp : putD M.length (.str s) (.int j) (M ++ [Cell.dic acc]) = some (M ++ [Cell.dic (putKV (.str s) (.int j) acc)]) := by
      unfold putD
      rw [show (M ++ [Cell.dic acc])[M.length]? = some (.dic acc) by simp]
      simp only [isKey]
      rw [decide_eq_true (show acc.length < sline by unfold sline; omega)]
      simp
    show (match putD M.length (.str s) (.int j) (M ++ [Cell.dic acc]) with
            | some M3 => dcLoop [4] (.nm 4) (fun ε M => ev C (.loc 4) ε M) (fun ε M => ev C (.loc 6) ε M) [] [o0, o1, o2, o3, o4, o5, some (.int j), some row] M.length (r.map .str) M3
            | none => .stuck) = _
    rw [hp]
    exact ih
theorem rows_loop : ∀ (S : List (List Str)) (j : Int) (ks : List Str) (acc : List (PV × PV)), KeysIn ks acc → (ks ++ S.flatten).Nodup → acc.length + S.flatten.length ≤ 1000 →
    dcLoop2 [6, 7, 4] [4] (.tup [.nm 6, .nm 7]) (.nm 4) (fun ε M => evi C (.of (.loc 7)) ε M) (fun ε M => ev C (.loc 4) ε M) (fun ε M => ev C (.loc 6) ε M) [] [o0, o1, o2, o3, o4, o5, o6, o7] M.length (enumFrom j (S.map rowT)) (M ++ [Cell.dic acc]) = .ok () (M ++ [Cell.dic (acc ++ numsKV j S)])
  | [], j, ks, acc, _, _, _ => by simp [numsKV]; rfl
  | r :: S, j, ks, acc, h, hn, hl => by
    rw [List.flatten_cons] at hn hl
    rw [List.length_append] at hl
    obtain ⟨e1, e2⟩ := row_fold j r ks acc h (by rw [← List.append_assoc] at hn; exact (List.nodup_append.mp hn).1)
    have hr := row_loop (C := C) (M := M) (o0 := o0) (o1 := o1) (o2 := o2) (o3 := o3) (o5 := o5) (j := j) (row := rowT r) r acc none (by omega)
    rw [e1] at hr
    have ih := rows_loop S (j + 1) (ks ++ r) (acc ++ rowKV j r) e2 (by rw [List.append_assoc]; exact hn) (by rw [List.length_append]; unfold rowKV; rw [List.length_map]; omega)
    show ((dcLoop [4] (.nm 4) (fun ε M => ev C (.loc 4) ε M) (fun ε M => ev C (.loc 6) ε M) [] [o0, o1, o2, o3, none, o5, some (.int j), some (rowT r)] M.length (r.map .str) (M ++ [Cell.dic acc])).bind fun _ M2 => dcLoop2 [6, 7, 4] [4] (.tup [.nm 6, .nm 7]) (.nm 4) (fun ε M => evi C (.of (.loc 7)) ε M) (fun ε M => ev C (.loc 4) ε M) (fun ε M => ev C (.loc 6) ε M) [] [o0, o1, o2, o3, o4, o5, o6, o7] M.length (enumFrom (j + 1) (S.map rowT)) M2) = _
    rw [hr]
    show dcLoop2 _ _ _ _ _ _ _ _ _ _ _ _ = _
    rw [ih, List.append_assoc]
    rfl
theorem ltd_nums {n : Nat} : ∀ (S : List (List Str)) (j : Int), PV.ltd n (numsKV j S) = true := by
  have app : ∀ a b : List (PV × PV), PV.ltd n a = true → PV.ltd n b = true → PV.ltd n (a ++ b) = true := fun a b => by
    induction a with
    | nil => exact fun _ h => h
    | cons p r ih =>
      intro h1 h2
      have h1 : (PV.lt n p.1 && (PV.lt n p.2 && PV.ltd n r)) = true := h1
      rw [Bool.and_eq_true, Bool.and_eq_true] at h1
      show (PV.lt n p.1 && (PV.lt n p.2 && PV.ltd n (r ++ b))) = true
      rw [h1.1, h1.2.1, ih h1.2.2 h2]
      rfl
  intro S
  induction S with
  | nil => exact fun _ => rfl
  | cons r S ih =>
    intro j
    refine app _ _ ?_ (ih (j + 1))
    induction r with
    | nil => rfl
    | cons s r ih => exact ih
/-- Plan.numbers -/
theorem rp_nums {e : CE} {S : List (List Str)} {Q E : PV → Mem → Prop} (h : Rp (ev C e [o0, o1, o2, o3, o4, o5, o6, o7] M) (fun v N => N = M ∧ v = .tup (S.map rowT)) E) (hn : S.flatten.Nodup) (hl : S.flatten.length ≤ 1000) (hq : Q (.dic (numsKV 0 S)) M) : Rp (ev C (.dcm2 false [6, 7, 4] [4] (.loc 4) (.loc 6) (.tup [(.nm 6), (.nm 7)]) (.enm2 e) (.nm 4) (.of (.loc 7))) [o0, o1, o2, o3, o4, o5, o6, o7] M) Q E := by
  show Rp ((evi C (.enm2 e) [o0, o1, o2, o3, o4, o5, o6, o7] M).bind _) Q E
  rw [rp_bind, rp_enm2]
  revert h
  generalize ev C e [o0, o1, o2, o3, o4, o5, o6, o7] M = q
  cases q with
  | ok v N =>
    rintro ⟨rfl, rfl⟩
    rw [rp_ok, kenmT]
    show Rp ((dcLoop2 [6, 7, 4] [4] (.tup [.nm 6, .nm 7]) (.nm 4) (fun ε M => evi C (.of (.loc 7)) ε M) (fun ε M => ev C (.loc 4) ε M) (fun ε M => ev C (.loc 6) ε M) [] [o0, o1, o2, o3, o4, o5, o6, o7] N.length (enumFrom 0 (S.map rowT)) (N ++ [Cell.dic []])).bind fun _ M1 => dcEnd false N M1) Q E
    rw [rows_loop S 0 [] [] (fun p hp => by cases hp) (by simpa using hn) (by simpa using hl)]
    show Rp (dcEnd false N (N ++ [Cell.dic (numsKV 0 S)])) Q E
    unfold dcEnd
    simp only [show (N ++ [Cell.dic (numsKV 0 S)])[N.length]? = some (.dic (numsKV 0 S)) by simp]
    rw [show (N ++ [Cell.dic (numsKV 0 S)]).set N.length .dead = N ++ [Cell.dead] by simp, fin_of (v := .dic (numsKV 0 S)) (ltd_nums S 0) .app]
    simpa using hq
  | err e N => exact fun h => h
  | stuck => exact fun h => h.elim
end
end
end WT
set_option maxRecDepth 100000
set_option autoImplicit false
/-! Texts joined by a separator of which the second sign is in no part, cut again. -/
namespace WT
open PySem (Str CmpOp Operator PyData)
theorem pre_two {a b : Nat} {S l : List Nat} (h : l[1]? ≠ some b) : TL.pre (a :: b :: S) l = false := by
  cases hp : TL.pre (a :: b :: S) l with
  | false => rfl
  | true =>
    have e : l.take (a :: b :: S).length = a :: b :: S := eq_of_beq hp
    have e1 : (l.take (a :: b :: S).length)[1]? = some b := by rw [e]; rfl
    rw [List.getElem?_take, if_pos (by simp)] at e1
    exact absurd e1 h
theorem free_two {a b : Nat} {S p q : List Nat} (hab : a ≠ b) (h : b ∉ p) (hq : q = [] ∨ q[0]? = some a) : ∀ i, i < p.length → TL.pre (a :: b :: S) ((p ++ q).drop i) = false := fun i hi => by
  refine pre_two ?_
  rw [List.getElem?_drop]
  by_cases hl : i + 1 < p.length
  · rw [List.getElem?_append_left hl]
    intro e
    exact h (List.mem_of_getElem? e)
  · rw [List.getElem?_append_right (by omega), show i + 1 - p.length = 0 by omega]
    rcases hq with rfl | hq
    · simp
    · rw [hq]
      intro e
      exact hab (Option.some.inj e)
theorem spl_two {a b : Nat} {S : List Nat} (hab : a ≠ b) : ∀ {parts : List (List Nat)}, parts ≠ [] → (∀ p ∈ parts, b ∉ p) → TL.spl (a :: b :: S) 0 [] (TL.joinL (a :: b :: S) parts) = parts
  | [], h, _ => absurd rfl h
  | [p], _, hp => by
    show TL.spl (a :: b :: S) 0 [] p = [p]
    rw [TL.spl_last fun i hi => by
      have z := free_two (S := S) (q := []) hab (hp p (List.mem_singleton.mpr rfl)) (.inl rfl) i hi
      rwa [List.append_nil] at z, List.nil_append]
  | p :: q :: r, _, hp => by
    show TL.spl (a :: b :: S) 0 [] (p ++ (a :: b :: S ++ TL.joinL (a :: b :: S) (q :: r))) = p :: q :: r
    rw [TL.spl_part (by simp) (free_two hab (hp p List.mem_cons_self) (.inr rfl)), List.nil_append, spl_two hab (by simp) fun z hz => hp z (List.mem_cons_of_mem _ hz)]
theorem split_two {y : Str} {a b : Nat} {S : List Nat} (ey : TL.tl y = a :: b :: S) (hab : a ≠ b) (hk : y.cps.all (· < 256) = true) {parts : List Str} (hne : parts ≠ []) (hp : ∀ p ∈ parts, b ∉ TL.tl p) : PySem.Txt.split (PySem.Txt.join y parts) y = parts := by
  refine TL.map_tl_inj ?_
  rw [TL.split_spl _ y (by rw [ey]; simp) (TL.kind_ok hk), TL.join_eq, TL.tl_join, ey]
  refine spl_two hab (fun e => hne (List.map_eq_nil_iff.mp e)) fun p h => ?_
  obtain ⟨z, hz, rfl⟩ := List.mem_map.mp h
  exact hp z hz
/-- a joined text has the signs of its parts and of the separator -/
theorem join_signs {y : Str} {c : Nat} : ∀ {ps : List Str}, c ∈ TL.tl (PySem.Txt.join y ps) → c ∈ TL.tl y ∨ ∃ p ∈ ps, c ∈ TL.tl p := by
  have key : ∀ {ps : List (List Nat)} {S : List Nat}, c ∈ TL.joinL S ps → c ∈ S ∨ ∃ p ∈ ps, c ∈ p := by
    intro ps S
    induction ps with
    | nil => intro h; cases h
    | cons p r ih =>
      cases r with
      | nil => exact fun h => .inr ⟨p, List.mem_cons_self, h⟩
      | cons q r =>
        intro h
        have h : c ∈ p ++ (S ++ TL.joinL S (q :: r)) := h
        rcases List.mem_append.mp h with h | h
        · exact .inr ⟨p, List.mem_cons_self, h⟩
        · rcases List.mem_append.mp h with h | h
          · exact .inl h
          · rcases ih h with h | ⟨z, hz, h⟩
            · exact .inl h
            · exact .inr ⟨z, List.mem_cons_of_mem _ hz, h⟩
  intro ps h
  rw [TL.join_eq, TL.tl_join] at h
  rcases key h with h | ⟨p, hp, h⟩
  · exact .inl h
  · obtain ⟨z, hz, rfl⟩ := List.mem_map.mp hp
    exact .inr ⟨z, hz, h⟩
theorem join_snoc {y : Str} : ∀ {ps : List Str} {p : Str}, ps ≠ [] → PySem.Txt.join y (ps ++ [p]) = PySem.Txt.join y ps ++ y ++ p := by
  have key : ∀ {ps : List Str} {p : Str}, ps ≠ [] → PySem.Str.join y (ps ++ [p]) = PySem.Str.join y ps ++ y ++ p := by
    intro ps p h
    induction ps with
    | nil => exact absurd rfl h
    | cons a r ih =>
      cases r with
      | nil => rfl
      | cons b r =>
        have e1 : PySem.Str.join y (a :: b :: r ++ [p]) = a ++ y ++ PySem.Str.join y (b :: r ++ [p]) := rfl
        have e2 : PySem.Str.join y (a :: b :: r) = a ++ y ++ PySem.Str.join y (b :: r) := rfl
        rw [e1, e2, ih (by simp)]
        refine str_ext ?_
        simp only [app_list, List.append_assoc]
  intro ps p h
  rw [TL.join_eq, TL.join_eq, key h]
theorem mem_sum : ∀ {ps : List Str} {p : Str}, p ∈ ps → p.length ≤ (ps.map Str.length).sum
  | a :: r, p, h => by
    rw [List.map_cons, List.sum_cons]
    rcases List.mem_cons.mp h with rfl | h
    · omega
    · have := mem_sum h
      omega
theorem split_bds {z y : Str} (hy : 1 ≤ y.length) : (∀ w ∈ PySem.Txt.split z y, w.length ≤ z.length) ∧ (PySem.Txt.split z y).length ≤ z.length + 1 := by
  have e : PySem.Txt.join y (PySem.Txt.split z y) = z := (TL.join_eq y _).trans (PySem.StrLaws.join_split z y)
  have h := join_len y (PySem.Txt.split z y)
  rw [e] at h
  refine ⟨fun w hw => ?_, ?_⟩
  · have := mem_sum hw
    omega
  · have : (PySem.Txt.split z y).length - 1 ≤ ((PySem.Txt.split z y).length - 1) * y.length := Nat.le_mul_of_pos_right _ hy
    omega
theorem rp_cut {z y : Str} {M : Mem} {Q E : PV → Mem → Prop} {ps : List Str} (hy : 1 ≤ y.length) (h : z.length ≤ 500000) (he : PySem.Txt.split z y = ps) (hq : Q (.lst (ps.map .str)) M) : Rp (bmeth .split false (.str z) [.str y] M) Q E := by
  obtain ⟨h1, h2⟩ := split_bds (z := z) hy
  refine rp_split hy (by omega) (fun w hw => by have := h1 w hw; omega) (by omega) ?_
  rw [he]
  exact hq
theorem join_last {y a b : Str} {ps : List Str} : PySem.Txt.join y (ps ++ [a ++ b]) = PySem.Txt.join y (ps ++ [a]) ++ b := by
  have one : ∀ c : Str, PySem.Txt.join y [c] = c := fun c => TL.join_eq y [c]
  cases ps with
  | nil => rw [List.nil_append, List.nil_append, one, one]
  | cons p r =>
    rw [join_snoc (by simp), join_snoc (by simp)]
    refine str_ext ?_
    simp only [app_list, List.append_assoc]
/-- ascending lists with the same members -/
theorem asc_eq : ∀ {xs ys : List Int}, xs.Pairwise (· < ·) → ys.Pairwise (· < ·) → (∀ x, x ∈ xs ↔ x ∈ ys) → xs = ys
  | [], [], _, _, _ => rfl
  | [], y :: r, _, _, h => absurd ((h y).mpr List.mem_cons_self) (by simp)
  | x :: r, [], _, _, h => absurd ((h x).mp List.mem_cons_self) (by simp)
  | x :: r, y :: s, hx, hy, h => by
    obtain ⟨x1, x2⟩ := List.pairwise_cons.mp hx
    obtain ⟨y1, y2⟩ := List.pairwise_cons.mp hy
    have e : x = y := by
      rcases List.mem_cons.mp ((h x).mp List.mem_cons_self) with e | h1
      · exact e
      · rcases List.mem_cons.mp ((h y).mpr List.mem_cons_self) with e | h2
        · exact e.symm
        · have := y1 x h1
          have := x1 y h2
          omega
    subst e
    rw [asc_eq x2 y2 fun z => ⟨fun hz => by
      rcases List.mem_cons.mp ((h z).mp (List.mem_cons_of_mem _ hz)) with rfl | h'
      · have := x1 z hz
        omega
      · exact h', fun hz => by
      rcases List.mem_cons.mp ((h z).mpr (List.mem_cons_of_mem _ hz)) with rfl | h'
      · have := y1 z hz
        omega
      · exact h'⟩]
section
variable {M : Mem} {Q E : PV → Mem → Prop} {x y : PV}
@[simp ↓] theorem rp_ix20 : Rp (getIx M (.tup [x, y]) (.int 0)) Q E ↔ Q x M := Iff.rfl
@[simp ↓] theorem rp_ix21 : Rp (getIx M (.tup [x, y]) (.int 1)) Q E ↔ Q y M := Iff.rfl
end
theorem enSrc_sq {M : Mem} {v : PV} {xs : List PV} (h : Sq M v xs) : enSrc M v = srcOf M v := by
  rcases h with rfl | rfl | ⟨L, rfl, h⟩
  · rfl
  · rfl
  · rfl
section
variable {C : Ctx} {ε : Env} {M : Mem} {P : Out → Prop} {r : List CS}
/-- for t in enumerate(e): body -/
theorem wp_forE {t : CT} {e : CE} {body : List CS} (Inv : Nat → Env → Mem → Prop) (h : Rp (ev C e ε M) (fun v N => ∃ xs, Sq N v xs ∧ (∀ j ε N', Inv j ε N' → Sq N' v xs) ∧ Inv 0 ε N ∧ (∀ j x ε N, xs[j]? = some x → Inv j ε N → ∃ ε1, bindT t (.tup [.int (j : Int), x]) ε N = some ε1 ∧ Wp (exs C body ε1 N) (Kbody C Inv j r P)) ∧ (∀ ε N, Inv xs.length ε N → Wp (exs C r ε N) P)) (Ker ε P)) : WFor C t (.enm2 e) body r ε M P := by
  refine wp_forS Inv ?_
  rw [rp_enm2]
  revert h
  generalize ev C e ε M = q
  cases q with
  | ok v N =>
    rintro ⟨xs, h1, h2, h3, h4, h5⟩
    obtain ⟨src, e1, _⟩ := h1.src
    have e2 : enSrc N v = some (xs, src) := (enSrc_sq h1).trans e1
    rw [rp_ok]
    unfold Kenm
    rw [e2]
    refine ⟨fun j ε N' hI => ((h2 j ε N' hI).still e1 h1).2, h3, fun j x ε N hj hI => ?_, fun ε N hI => h5 ε N (by rwa [enum_len] at hI)⟩
    obtain ⟨y, hy, rfl⟩ := enum_get hj
    rw [Int.zero_add]
    exact h4 j y ε N hy hI
  | err e N => exact fun h => h
  | stuck => exact fun h => h.elim
end
theorem Aft.young {i L : Nat} {k : Int} {M N : Mem} {c : Cell} (h : Aft i k M N) (hi : i < M.length) (hL : M.length ≤ L) : Aft i k M (N.set L c) := by
  refine ⟨by rw [List.length_set]; exact h.len, fun j hj hn => ?_, ?_⟩
  · rw [List.getElem?_set_ne (by omega)]
    exact h.same j hj hn
  · obtain ⟨a, b, c, e, q⟩ := h.ds
    exact ⟨a, b, c, by rw [List.getElem?_set_ne (by omega)]; exact e, q⟩
theorem Aft.at {i L : Nat} {k : Int} {M N : Mem} {c : Cell} (h : Aft i k M N) (hc : M[L]? = some c) (hn : L ≠ i) : N[L]? = some c := (h.same L (List.getElem?_eq_some_iff.mp hc).1 hn).trans hc
/-- a part taken out -/
theorem out_perm {α : Type} {l f : List α} {d : Nat} {s : α} (h : l[d]? = some s) : ((l.take d ++ l.drop (d + 1)) ++ (f ++ [s])).Perm (l ++ f) := by
  have e : l = l.take d ++ s :: l.drop (d + 1) := by
    obtain ⟨hl, rfl⟩ := List.getElem?_eq_some_iff.mp h
    rw [← List.drop_eq_getElem_cons hl, List.take_append_drop]
  have p1 : l.Perm (s :: (l.take d ++ l.drop (d + 1))) := by
    have := List.perm_middle (a := s) (l₁ := l.take d) (l₂ := l.drop (d + 1))
    rwa [← e] at this
  have p2 : ((l.take d ++ l.drop (d + 1)) ++ (f ++ [s])).Perm (s :: ((l.take d ++ l.drop (d + 1)) ++ f)) := by
    rw [← List.append_assoc]
    exact List.perm_append_singleton s _
  exact p2.trans (p1.symm.append_right f)
end WT
set_option maxRecDepth 100000
set_option autoImplicit false
/-! Comprehensions whose test draws; slices of what may be a cell. -/
namespace WT
open PySem (Str CmpOp Operator PyData)
section
variable {C : Ctx} {ε : Env} {M : Mem} {own : List Nat} {t : CT} {ce c : CE} {it : CI} {Q E : PV → Mem → Prop}
theorem lcT_loop {tests : Env → Mem → Res Bool} {elt : Env → Mem → Res PV} {i L : Nat} {B d : Int} (hd : 0 ≤ d) : ∀ (xs acc : List PV) (N : Mem) (k : Int), L < N.length → i ≠ L → N[L]? = some (.lst acc) → DS N i k → k + d * (xs.length : Int) ≤ B → acc.length + xs.length ≤ sline →
    (∀ x ∈ xs, ∀ N k, L < N.length → DS N i k → k + d ≤ B → ∃ ε1, bindT t x (wipeE ε own) N = some ε1 ∧ (∀ N', elt ε1 N' = .ok x N') ∧ Rp (tests ε1 N) (fun _ N' => Aft i (k + d) N N') nev) →
    ∃ vs N', lcLoop own t tests elt [] ε L xs N = .ok () N' ∧ N'[L]? = some (.lst (acc ++ vs)) ∧ N.length ≤ N'.length ∧ (∀ j, j < L → j ≠ i → N'[j]? = N[j]?) ∧ DS N' i (k + d * (xs.length : Int)) ∧ vs.Sublist xs
  | [], acc, N, k, hL, hi, hN, hD, hk, hl, _ => ⟨[], N, rfl, (by rw [List.append_nil]; exact hN), Nat.le_refl _, fun _ _ _ => rfl, (by simpa using hD), .slnil⟩
  | x :: r, acc, N, k, hL, hi, hN, hD, hk, hl, h => by
    have hlen : ((x :: r).length : Int) = (r.length : Int) + 1 := by simp
    rw [hlen, Int.mul_add, Int.mul_one] at hk
    have hr : 0 ≤ d * (r.length : Int) := Int.mul_nonneg hd (by omega)
    simp only [List.length_cons] at hl
    obtain ⟨ε1, h1, h3, h2⟩ := h x List.mem_cons_self N k hL hD (by omega)
    obtain ⟨b, N1, e1, hA⟩ := h2.get
    have hN1 : N1[L]? = some (.lst acc) := (hA.same L hL (Ne.symm hi)).trans hN
    have hL1 : L < N1.length := Nat.lt_of_lt_of_le hL hA.len
    have go : lcLoop own t tests elt [] ε L (x :: r) N = (match b with
        | true => lcLoop own t tests elt [] ε L r (N1.set L (.lst (acc ++ [x])))
        | false => lcLoop own t tests elt [] ε L r N1) := by
      show (match still [] N, bindT t x (wipeE ε own) N with
        | true, some ε1 => (match tests ε1 N with
          | .ok true M1 => (match elt ε1 M1 with
            | .ok v M2 => (match M2[L]? with
              | some (.lst acc) => (match decide (acc.length < sline) with
                | true => lcLoop own t tests elt [] ε L r (M2.set L (.lst (acc ++ [v])))
                | false => .stuck)
              | _ => .stuck)
            | _ => .stuck)
          | .ok false M1 => lcLoop own t tests elt [] ε L r M1
          | _ => .stuck)
        | _, _ => .stuck) = _
      rw [h1, still_nil]
      cases b with
      | true => simp only [e1, h3, hN1, decide_eq_true (show acc.length < sline by omega)]
      | false => simp only [e1]
    cases b with
    | true =>
      have hD1 : DS (N1.set L (.lst (acc ++ [x]))) i (k + d) := by
        obtain ⟨a, b, c, e, q⟩ := hA.ds
        exact ⟨a, b, c, by rw [List.getElem?_set_ne (Ne.symm hi)]; exact e, q⟩
      obtain ⟨vs, N', q1, q2, q3, q4, q5, q7⟩ := lcT_loop hd r (acc ++ [x]) (N1.set L (.lst (acc ++ [x]))) (k + d) (by simpa using hL1) hi (List.getElem?_set_self hL1) hD1 (by omega) (by rw [List.length_append, List.length_singleton]; omega) fun y hy => h y (List.mem_cons_of_mem _ hy)
      refine ⟨x :: vs, N', go.trans q1, by rw [q2, List.append_assoc]; rfl, ?_, fun j hj hn => ?_, ?_, q7.cons₂ x⟩
      · rw [List.length_set] at q3
        exact Nat.le_trans hA.len q3
      · rw [q4 j hj hn, List.getElem?_set_ne (by omega)]
        exact hA.same j (by omega) hn
      · rw [hlen, Int.mul_add, Int.mul_one, show k + (d * (r.length : Int) + d) = k + d + d * (r.length : Int) by omega]
        exact q5
    | false =>
      obtain ⟨vs, N', q1, q2, q3, q4, q5, q7⟩ := lcT_loop hd r acc N1 (k + d) hL1 hi hN1 hA.ds (by omega) (by omega) fun y hy => h y (List.mem_cons_of_mem _ hy)
      refine ⟨vs, N', go.trans q1, q2, Nat.le_trans hA.len q3, fun j hj hn => ?_, ?_, q7.cons x⟩
      · rw [q4 j hj hn]
        exact hA.same j (by omega) hn
      · rw [hlen, Int.mul_add, Int.mul_one, show k + (d * (r.length : Int) + d) = k + d + d * (r.length : Int) by omega]
        exact q5
/-- [x for x in xs if test], each test draws at most d times -/
theorem rp_lcT {i : Nat} {k : Int} (d : Int) (hd : 0 ≤ d) (h : Rp (evi C it ε M) (fun its N => its.2 = [] ∧ DS N i k ∧ its.1.length ≤ sline ∧ (∀ x ∈ its.1, ∀ n, x.lt n = true) ∧
    (∀ x ∈ its.1, ∀ N' k', DS N' i k' → k' + d ≤ k + d * (its.1.length : Int) → ∃ ε1, bindT t x (wipeE ε own) N' = some ε1 ∧ (∀ N'', ev C ce ε1 N'' = .ok x N'') ∧ Rp (ev C c ε1 N') (Kt (fun _ N'' => Aft i (k' + d) N' N'')) nev) ∧
    (∀ vs N', vs.Sublist its.1 → Aft i (k + d * (its.1.length : Int)) N N' → N'.length = N.length → Q (.lst vs) N')) E) : RLc C false own ce t it [c] ε M Q E := by
  show Rp ((evi C it ε M).bind _) Q E
  rw [rp_bind]
  revert h
  generalize evi C it ε M = q
  cases q with
  | ok its N =>
    rintro ⟨h1, hD, h2, hx, h3, h4⟩
    obtain ⟨xs, src⟩ := its
    simp only at h1 h2 h3 h4 hx
    subst h1
    have hi := hD.lt
    obtain ⟨vs, N', e, q1, q2, q3, q4, q6⟩ := lcT_loop (own := own) (t := t) (ε := ε) (tests := fun ε M => (ev C c ε M).test) (elt := fun ε M => ev C ce ε M) (i := i) (L := N.length) hd xs [] (N ++ [Cell.lst []]) k (by simp) (by omega) (by simp) hD.app (Int.le_refl _) (by simpa using h2) (fun x hx N' k' _ hD' hk' => by
      obtain ⟨ε1, a1, a2, a3⟩ := h3 x hx N' k' hD' hk'
      exact ⟨ε1, a1, a2, rp_test.mpr a3⟩)
    show Rp ((lcLoop own t (fun ε M => (ev C c ε M).test) (fun ε M => ev C ce ε M) [] ε N.length xs (N ++ [Cell.lst []])).bind fun _ M1 => lcEnd false N M1) Q E
    rw [e]
    show Rp (lcEnd false N N') Q E
    rw [List.nil_append] at q1
    have hA : Aft i (k + d * (xs.length : Int)) N (N'.set N.length .dead) := ⟨by
      rw [List.length_set]
      simp at q2
      omega, fun j hj hn => by
      rw [List.getElem?_set_ne (by omega), q3 j hj hn, List.getElem?_append_left hj], by
      obtain ⟨a, b, c, e, q⟩ := q4
      exact ⟨a, b, c, by rw [List.getElem?_set_ne (by omega)]; exact e, q⟩⟩
    unfold lcEnd
    simp only [q1]
    rw [hA.fin (v := .lst vs) (lts_of fun v hv => hx v (q6.subset hv) _)]
    exact h4 vs _ q6 (hA.take hi) hA.tlen
  | err e N => exact fun h => h
  | stuck => exact fun h => h.elim
variable {v : PV} {xs : List PV}
theorem rp_slQ {l h : Option Int} (hv : rd M v = .lst xs) : Rp (slice false v l h M) Q E ↔ Q (.lst (cut xs l h)) M := by
  unfold slice
  rw [hv]
  exact Iff.rfl
theorem rp_neNilQ {ss : List Str} (hv : v = .lst (ss.map .str) ∨ ∃ L, v = .ref L ∧ M[L]? = some (.lst (ss.map .str))) (h : ∀ x ∈ ss, PyData.strOk x = true) : Rp (cmpop C .NotEq v (.lst []) M) Q E ↔ Q (.bl (!ss.isEmpty)) M := by
  rcases hv with rfl | ⟨L, rfl, hL⟩
  · exact rp_neNilS h
  · have h1 : okPs (ss.map .str) = true := okPs_of fun x hx => by
      obtain ⟨s, hs, rfl⟩ := List.mem_map.mp hx
      exact h s hs
    have h2 : dpPs (ss.map .str) ≤ 0 := dpPs_le fun x hx => by
      obtain ⟨s, hs, rfl⟩ := List.mem_map.mp hx
      exact Nat.le_refl _
    rw [rp_neNilR hL h1 (by omega)]
    cases ss <;> exact Iff.rfl
theorem sub_nums {m : Nat} {vs : List PV} (h : vs.Sublist (nums m)) : ∃ W : List Int, vs = W.map .int ∧ W.Pairwise (· < ·) ∧ ∀ w ∈ W, 0 ≤ w ∧ w < (m : Int) := by
  unfold nums at h
  obtain ⟨l, hl, rfl⟩ := List.sublist_map_iff.mp h
  refine ⟨l.map fun (j : Nat) => (j : Int), by rw [List.map_map]; rfl, ?_, fun w hw => ?_⟩
  · exact List.pairwise_map.mpr ((List.Pairwise.sublist hl List.pairwise_lt_range).imp fun h => by omega)
  · obtain ⟨j, hj, rfl⟩ := List.mem_map.mp hw
    have := List.mem_range.mp (hl.subset hj)
    omega
theorem krevQ (hv : rd M v = .lst xs) : Krev false Q E v M ↔ Q (.lst xs.reverse) M := by
  unfold Krev revOf
  rw [hv]
  exact Iff.rfl
theorem rp_addQ {u : PV} {ys : List PV} (hv : rd M v = .lst xs) (hu : rd M u = .lst ys) : Rp (binop false .Add v u M) Q E ↔ xs.length + ys.length ≤ 16777216 ∧ Q (.lst (xs ++ ys)) M := by
  have e : binop false .Add v u M = guard (decide (xs.length + ys.length ≤ sline)) (mkL false (xs ++ ys) M) := by
    unfold binop
    rw [hv, hu]
  rw [e]
  exact rp_guard.trans (by rw [decide_eq_true_eq]; exact Iff.rfl)
theorem rp_lstOfQ (hv : rd M v = .lst xs) : Rp (bfn .listOf false [v] M) Q E ↔ Q (.lst xs) M := by
  have e : bfn .listOf false [v] M = .ok (.lst xs) M := by
    show (match (match rd M v with
      | .lst xs => some xs
      | .tup xs => some xs
      | _ => none) with
      | some xs => mkL false xs M
      | none => keysOf false v M) = _
    rw [hv]
    rfl
  rw [e]
  exact Iff.rfl
theorem rp_tupOfQ {m : Bool} (hv : rd M v = .lst xs) : Rp (bfn .tupleOf m [v] M) Q E ↔ Q (.tup xs) M := by
  have e : bfn .tupleOf m [v] M = .ok (.tup xs) M := by
    show (match (match rd M v with
      | .lst xs => some xs
      | .tup xs => some xs
      | _ => none) with
      | some xs => Res.ok (PV.tup xs) M
      | none => .stuck) = _
    rw [hv]
  rw [e]
  exact Iff.rfl
theorem kmet0 {x : PV} {c k f : Nat} {fs : List (Nat × PV)} (h0 : rd M x = .ins c fs) (h1 : C.G.meths.lookup (c, k) = some f) (h2 : fs.lookup k = none) : Kmet C k [] ε Q E x M ↔ Rp (C.call f [x] M) Q E := by
  rw [kmet h0 h1 h2]
  exact Iff.rfl
end
end WT
set_option maxRecDepth 100000
set_option autoImplicit false
/-! repr of nested tuples and lists of texts and small numbers. -/
namespace WT
noncomputable section
open PySem (Str CmpOp Operator PyData)
mutual
def smP : PV → Bool
  | .non | .bl _ => true
  | .int i => decide (0 ≤ i) && decide (i < 1000000)
  | .str s => PyData.strOk s
  | .tup xs => smPs xs
  | .lst xs => smPs xs
  | _ => false
def smPs : List PV → Bool
  | [] => true
  | x :: r => smP x && smPs r
end
mutual
def bkP : PV → Nat
  | .str s => s.length
  | .tup xs => bkPs xs
  | .lst xs => bkPs xs
  | _ => 0
def bkPs : List PV → Nat
  | [] => 0
  | x :: r => bkP x + 1 + bkPs r
end
theorem small_shown {i : Int} (h0 : 0 ≤ i) (h : i < 1000000) : (PyData.shown (.int i)).length ≤ 8 := by
  obtain ⟨n, rfl⟩ : ∃ n : Nat, i = (n : Int) := ⟨i.toNat, by omega⟩
  have e := TL.tl_num n
  have hl : (TL.numL n).length ≤ 6 := TL.numL_len (by omega) (by omega)
  have e2 : (Str.ofString (toString ((n : Nat) : Int))).length = (TL.numL n).length := by
    rw [← e]
    exact (Array.length_toList (xs := (Str.ofString (toString ((n : Nat) : Int))).cps)).symm
  show (Str.ofString (toString ((n : Nat) : Int))).length ≤ 8
  omega
mutual
theorem smP_deep : ∀ p : PV, smP p = true → ∃ d, (∀ r, deepW r p = some d) ∧ d.showable = true ∧ d.hasDict = false ∧ d.depth ≤ dpP p ∧ d.leavesShort 8 = true ∧ d.bulk ≤ bkP p
  | .non, _ => ⟨.none, fun _ => rfl, rfl, rfl, Nat.le_refl _, rfl, Nat.le_refl _⟩
  | .bl b, _ => ⟨.bool b, fun _ => rfl, rfl, rfl, Nat.le_refl _, rfl, Nat.le_refl _⟩
  | .int i, h => by
    have h : (decide (0 ≤ i) && decide (i < 1000000)) = true := h
    rw [Bool.and_eq_true, decide_eq_true_eq, decide_eq_true_eq] at h
    refine ⟨.int i, fun _ => rfl, ?_, rfl, Nat.le_refl _, decide_eq_true (small_shown h.1 h.2), Nat.le_refl _⟩
    show decide (i.natAbs.log2 < 1920) = true
    refine decide_eq_true ?_
    have : i.natAbs.log2 < 20 := log2_lt (by omega) (by omega)
    omega
  | .str s, h => by
    refine ⟨.str s, fun _ => rfl, rfl, rfl, Nat.le_refl _, ?_, Nat.le_refl _⟩
    show (s.cps.toList.all fun c => decide (c < 16 ^ 8)) = true
    have hx : s.cps.all (fun c => decide (c < 0x110000)) = true := h
    rw [← Array.all_toList] at hx
    refine List.all_eq_true.mpr fun c hc => decide_eq_true ?_
    have := of_decide_eq_true (List.all_eq_true.mp hx c hc)
    have e : (16 : Nat) ^ 8 = 4294967296 := by decide
    omega
  | .tup xs, h => by
    obtain ⟨ds, e, h1, h2, h3, h4, h5⟩ := smPs_deep xs h
    exact ⟨.tuple ds, fun r => by show (deepWs r xs).map PyData.tuple = _; rw [e]; rfl, h1, h2, Nat.succ_le_succ h3, h4, h5⟩
  | .lst xs, h => by
    obtain ⟨ds, e, h1, h2, h3, h4, h5⟩ := smPs_deep xs h
    exact ⟨.list ds, fun r => by show (deepWs r xs).map PyData.list = _; rw [e]; rfl, h1, h2, Nat.succ_le_succ h3, h4, h5⟩
  | .dic _, h => by cases h
  | .ins _ _, h => by cases h
  | .exc _ _, h => by cases h
  | .ref _, h => by cases h
  | .cls _, h => by cases h
  | .fn _, h => by cases h
  | .ty _, h => by cases h
  | .lk _ _ _, h => by cases h
theorem smPs_deep : ∀ ps : List PV, smPs ps = true → ∃ ds, (∀ r, deepWs r ps = some ds) ∧ PyData.showableAll ds = true ∧ PyData.hasDictAll ds = false ∧ PyData.depthAll ds ≤ dpPs ps ∧ PyData.leavesShortAll 8 ds = true ∧ PyData.bulkAll ds ≤ bkPs ps
  | [], _ => ⟨[], fun _ => rfl, rfl, rfl, Nat.le_refl _, rfl, Nat.le_refl _⟩
  | x :: l, h => by
    obtain ⟨ha, hb⟩ := Bool.and_eq_true_iff.mp (show (smP x && smPs l) = true from h)
    obtain ⟨d, e, h1, h2, h3, h4, h5⟩ := smP_deep x ha
    obtain ⟨ds, e', g1, g2, g3, g4, g5⟩ := smPs_deep l hb
    refine ⟨d :: ds, fun r => ?_, ?_, ?_, ?_, ?_, ?_⟩
    · show (deepW r x).bind (fun d => (deepWs r l).map fun ds => d :: ds) = _
      rw [e, e']
      rfl
    · show (d.showable && PyData.showableAll ds) = true
      rw [h1, g1]; rfl
    · show (d.hasDict || PyData.hasDictAll ds) = false
      rw [h2, g2]; rfl
    · show max d.depth (PyData.depthAll ds) ≤ max (dpP x) (dpPs l)
      omega
    · show (d.leavesShort 8 && PyData.leavesShortAll 8 ds) = true
      rw [h4, g4]; rfl
    · show d.bulk + 1 + PyData.bulkAll ds ≤ bkP x + 1 + bkPs l
      omega
end
theorem smPs_of {xs : List PV} (h : ∀ x ∈ xs, smP x = true) : smPs xs = true := by
  induction xs with
  | nil => rfl
  | cons x r ih =>
    show (smP x && smPs r) = true
    rw [h x List.mem_cons_self, ih fun y hy => h y (List.mem_cons_of_mem _ hy)]
    rfl
/-- the text of a value -/
theorem repr_ex {p : PV} (h : smP p = true) (hd : dpP p ≤ 60) (hb : bkP p ≤ 1000000) : ∃ z, ∀ N, bfn .repr false [p] N = .ok (.str z) N := by
  obtain ⟨d, e, h1, h2, h3, h4, h5⟩ := smP_deep p h
  refine ⟨d.shown, fun N => f_repr false (d := d) (e _) ?_⟩
  unfold reprOk
  have e4 : d.shown.length ≤ sline := by
    have := PyData.shown_le_bulk 8 (by omega) d h4
    unfold sline
    omega
  rw [h1, h2, decide_eq_true e4, decide_eq_true (show d.depth ≤ 60 by omega)]
  rfl
section
variable {C : Ctx} {ε : Env} {M : Mem} {Q E : PV → Mem → Prop} {x : PV} {a o b : CE} {xs : List PV}
/-! ### len of own values, list(range(n)), or -/
def KlenO (C : Ctx) (k : Nat) (Q E : PV → Mem → Prop) (x : PV) (M : Mem) : Prop := Rp (match rd M x with
    | .ins c _ => (match C.G.meths.lookup (c, k) with
      | some f => (match C.call f [x] M with
        | .ok (.int i) M1 => guard (decide (0 ≤ i) && decide (i < 4611686018427387904)) (.ok (.int i) M1)
        | _ => .stuck)
      | none => .stuck)
    | _ => .stuck) Q E
@[simp ↓] theorem rp_lenO {k : Nat} : Rp (ev C (.lenO k o) ε M) Q E ↔ Rp (ev C o ε M) (KlenO C k Q E) E := by
  show Rp ((ev C o ε M).bind _) Q E ↔ _
  rw [rp_bind]
  exact Iff.rfl
theorem klenO {c k f m : Nat} {fs : List (Nat × PV)} (h0 : rd M x = .ins c fs) (h1 : C.G.meths.lookup (c, k) = some f) (h2 : C.call f [x] M = .ok (.int (m : Int)) M) (hm : m < 1000000) : KlenO C k Q E x M ↔ Q (.int (m : Int)) M := by
  unfold KlenO
  rw [h0]
  simp only [h1, h2]
  rw [decide_eq_true (show (0 : Int) ≤ (m : Int) by omega), decide_eq_true (show (m : Int) < 4611686018427387904 by omega)]
  exact Iff.rfl
def Klrng (Q : PV → Mem → Prop) (v : PV) (M : Mem) : Prop := match v with
  | .int n => (-4611686018427387904 ≤ n ∧ n ≤ 16777216) ∧ Q (.lst (nums n.toNat)) M
  | _ => False
@[simp ↓] theorem klrng {n : Int} {Q : PV → Mem → Prop} : Klrng Q (.int n) M ↔ (-4611686018427387904 ≤ n ∧ n ≤ 16777216) ∧ Q (.lst (nums n.toNat)) M := Iff.rfl
@[simp ↓] theorem rp_lrng : Rp (ev C (.lrng false a) ε M) Q E ↔ Rp (ev C a ε M) (Klrng Q) E := by
  show Rp ((ev C a ε M).bind _) Q E ↔ _
  rw [rp_bind]
  refine iff_of_eq (congrArg (fun K => Rp (ev C a ε M) K E) (funext fun v => funext fun N => ?_))
  cases v with
  | int n =>
    show Rp (guard (decide (-4611686018427387904 ≤ n) && decide (n ≤ 16777216)) (.ok (.lst (nums n.toNat)) N)) Q E = ((-4611686018427387904 ≤ n ∧ n ≤ 16777216) ∧ Q (.lst (nums n.toNat)) N)
    refine propext (rp_guard.trans ?_)
    rw [Bool.and_eq_true, decide_eq_true_eq, decide_eq_true_eq]
    exact Iff.rfl
  | _ => rfl
@[simp ↓] theorem kor_nil : Kor C b ε Q E (.lst []) M ↔ Rp (ev C b ε M) Q E := Iff.rfl
@[simp ↓] theorem kor_cons {r : List PV} : Kor C b ε Q E (.lst (x :: r)) M ↔ Q (.lst (x :: r)) M := Iff.rfl
end
end
end WT
set_option maxRecDepth 100000
set_option autoImplicit false
/-! Rules for dicts: walked, made, read, compared; slots frozen. -/
namespace WT
noncomputable section
open PySem (Str CmpOp Operator PyData)
section
variable {C : Ctx} {ε : Env} {M N : Mem} {P : Out → Prop} {r : List CS} {v x y : PV} {xs ys : List PV} {kvs : List (PV × PV)} {Q E : PV → Mem → Prop}
/-! ### frozen slots -/
def WGh (C : Ctx) (i : Nat) (s : CS) (r : List CS) (ε : Env) (M : Mem) (P : Out → Prop) : Prop := Wp (exs C (s :: r) (frzE i ε M).1 (frzE i ε M).2) P
@[simp ↓] theorem wp_ghB {i : Nat} {s : CS} : Wp (exs C (.gh i s :: r) ε M) P ↔ WGh C i s r ε M P := Iff.rfl
theorem wp_ghL {i j : Nat} {s : CS} (h : ε[i]? = some (some (.ref j))) (h2 : M[j]? = some (.lst xs)) (hp : Wp (exs C (s :: r) (ε.set i (some (.lst xs))) (M.set j .dead)) P) : WGh C i s r ε M P := by
  unfold WGh
  have e : frzE i ε M = (ε.set i (some (.lst xs)), M.set j .dead) := by
    unfold frzE
    simp only [h, h2]
  rw [e]
  exact hp
theorem wp_ghD {i j : Nat} {s : CS} (h : ε[i]? = some (some (.ref j))) (h2 : M[j]? = some (.dic kvs)) (hp : Wp (exs C (s :: r) (ε.set i (some (.dic kvs))) (M.set j .dead)) P) : WGh C i s r ε M P := by
  unfold WGh
  have e : frzE i ε M = (ε.set i (some (.dic kvs)), M.set j .dead) := by
    unfold frzE
    simp only [h, h2]
  rw [e]
  exact hp
@[simp ↓] theorem rp_dic0C : Rp (ev C (.dic true [] []) ε M) Q E ↔ Q (.ref M.length) (M ++ [Cell.dic []]) := Iff.rfl
/-! ### stores in dicts -/
def WSeti (C : Ctx) (o i e : CE) (r : List CS) (ε : Env) (M : Mem) (P : Out → Prop) : Prop := Wp (exs C (.seti o i e :: r) ε M) P
@[simp ↓] theorem wp_setiB {o i e : CE} : Wp (exs C (.seti o i e :: r) ε M) P ↔ WSeti C o i e r ε M P := Iff.rfl
theorem wp_setS {o i e : CE} (h : Rp (ev C e ε M) (fun v N => Rp (ev C o ε N) (fun x N => Rp (ev C i ε N) (fun j N => ∃ L kvs s, x = .ref L ∧ N[L]? = some (.dic kvs) ∧ j = .str s ∧ kvs.length < 16777216 ∧ Wp (exs C r ε (N.set L (.dic (putKV (.str s) v kvs)))) P) (Ker ε P)) (Ker ε P)) (Ker ε P)) : WSeti C o i e r ε M P := by
  unfold WSeti
  rw [xs_cons]
  show Wp (((ev C e ε M).out ε fun v M => (ev C o ε M).out ε fun x M => (ev C i ε M).out ε fun j M => (match setIx x j v M with
    | some M1 => Out.nx ε M1
    | none => .stuck)).seq _) P
  revert h
  cases ev C e ε M with
  | stuck => exact fun h => h.elim
  | err a N => exact fun h => h
  | ok v N =>
    show Rp (ev C o ε N) _ _ → Wp (((ev C o ε N).out ε fun x M => (ev C i ε M).out ε fun j M => (match setIx x j v M with
      | some M1 => Out.nx ε M1
      | none => .stuck)).seq _) P
    cases ev C o ε N with
    | stuck => exact fun h => h.elim
    | err a N => exact fun h => h
    | ok x N =>
      show Rp (ev C i ε N) _ _ → Wp (((ev C i ε N).out ε fun j M => (match setIx x j v M with
        | some M1 => Out.nx ε M1
        | none => .stuck)).seq _) P
      cases ev C i ε N with
      | stuck => exact fun h => h.elim
      | err a N => exact fun h => h
      | ok j N =>
        rintro ⟨L, kvs, s, rfl, h1, rfl, h2, h3⟩
        show Wp ((match (match N[L]? with
          | some (.dic kvs) => if kvs.length < sline then some (N.set L (.dic (putKV (.str s) v kvs))) else none
          | _ => none) with
          | some M1 => Out.nx ε M1
          | none => .stuck).seq _) P
        rw [h1]
        show Wp ((match (if kvs.length < sline then some (N.set L (.dic (putKV (.str s) v kvs))) else none) with
          | some M1 => Out.nx ε M1
          | none => .stuck).seq _) P
        rw [if_pos (show kvs.length < sline from h2)]
        exact h3
/-! ### items of dicts -/
theorem rp_ixD {s : Str} (h : rd M x = .dic kvs) (hk : getK (.str s) kvs = some v) : Rp (getIx M x (.str s)) Q E ↔ Q v M := by
  have e : getIx M x (.str s) = .ok v M := by
    unfold getIx
    rw [h]
    show ofOpt M (getK (.str s) kvs) = _
    rw [hk]
    rfl
  rw [e]
  exact Iff.rfl
theorem rp_inD {s : Str} (h : rd M x = .dic kvs) : Rp (cmpop C .In (.str s) x M) Q E ↔ Q (.bl (getK (.str s) kvs).isSome) M := by
  have e : cmpop C .In (.str s) x M = .ok (.bl (getK (.str s) kvs).isSome) M := by
    show ofOpt M ((isIn M (.str s) x).map .bl) = _
    unfold isIn
    rw [h]
    rfl
  rw [e]
  exact Iff.rfl
theorem rp_ninD {s : Str} (h : rd M x = .dic kvs) : Rp (cmpop C .NotIn (.str s) x M) Q E ↔ Q (.bl (!(getK (.str s) kvs).isSome)) M := by
  have e : cmpop C .NotIn (.str s) x M = .ok (.bl (!(getK (.str s) kvs).isSome)) M := by
    show ofOpt M ((isIn M (.str s) x).map fun b => .bl (!b)) = _
    unfold isIn
    rw [h]
    rfl
  rw [e]
  exact Iff.rfl
theorem rp_ninS {s : Str} {ss : List Str} (h : Sq M y (ss.map .str)) : Rp (cmpop C .NotIn (.str s) y M) Q E ↔ Q (.bl (!decide (s ∈ ss))) M := by
  have e : cmpop C .NotIn (.str s) y M = .ok (.bl (!decide (s ∈ ss))) M := by
    show ofOpt M ((isIn M (.str s) y).map fun b => .bl (!b)) = _
    rw [isIn_sq h]
    unfold inSeq
    rw [flat_strs]
    show ofOpt M ((some ((ss.map PV.str).any fun z => eqF z (.str s))).map fun b => PV.bl (!b)) = _
    rw [any_strs]
    rfl
  rw [e]
  exact Iff.rfl
/-- what is None -/
def isNon : PV → Bool
  | .non => true
  | _ => false
@[simp ↓] theorem rp_is {x : PV} : Rp (cmpop C .Is x .non M) Q E ↔ Q (.bl (isNon x)) M := by cases x <;> exact Iff.rfl
@[simp ↓] theorem rp_isN {x : PV} : Rp (cmpop C .IsNot x .non M) Q E ↔ Q (.bl (!isNon x)) M := by cases x <;> exact Iff.rfl
@[simp ↓] theorem kt_str {s : Str} {K : Bool → Mem → Prop} : Kt K (.str s) M ↔ K ((s.length : Int) != 0) M := Iff.rfl
@[simp ↓] theorem kt_dic {K : Bool → Mem → Prop} : Kt K (.dic kvs) M ↔ K (!kvs.isEmpty) M := Iff.rfl
@[simp ↓] theorem rp_lenD {m : Bool} : Rp (bfn .len m [.dic kvs] M) Q E ↔ Q (.int (kvs.length : Int)) M := Iff.rfl
@[simp ↓] theorem kisi_dic : Kisi C [.ty "dict"] Q (.dic kvs) M ↔ Q (.bl true) M := Iff.rfl
/-! ### dicts walked -/
theorem kofD {Q : Items → Mem → Prop} (h : (kvs.all fun kv => keyFits kv.1) = true) : Kof Q (.dic kvs) M ↔ Q (kvs.map (·.1), []) M := by
  have e : srcOf M (.dic kvs) = some (kvs.map (·.1), []) := by
    show keySrc kvs = _
    unfold keySrc
    rw [if_pos h]
  unfold Kof
  rw [e]
def Kdv (Q : Items → Mem → Prop) (v : PV) (M : Mem) : Prop := match valSrc v with
  | some it => Q it M
  | none => False
@[simp ↓] theorem kdv {Q : Items → Mem → Prop} : Kdv Q (.dic kvs) M ↔ Q (kvs.map (·.2), []) M := Iff.rfl
@[simp ↓] theorem rp_dvals {Q : Items → Mem → Prop} {E : PV → Mem → Prop} {e : CE} : Rp (evi C (.dvals e) ε M) Q E ↔ Rp (ev C e ε M) (Kdv Q) E := by
  show Rp ((ev C e ε M).bind _) Q E ↔ _
  rw [rp_bind]
  generalize ev C e ε M = r
  cases r with
  | ok v N =>
    show Rp (match valSrc v with
      | some it => Res.ok it N
      | none => .stuck) Q E ↔ (match valSrc v with
      | some it => Q it N
      | none => False)
    cases valSrc v <;> exact Iff.rfl
  | err e N => exact Iff.rfl
  | stuck => exact Iff.rfl
/-! ### x << ys -/
def KopL2 (C : Ctx) (k : Nat) (x : PV) (Q E : PV → Mem → Prop) (y : PV) (M : Mem) : Prop := Rp (match rd M x, seqOf M y with
    | .ins c _, some _ => (match C.G.meths.lookup (c, k) with
      | some f => C.call f [x, y] M
      | none => .stuck)
    | _, _ => .stuck) Q E
def KopL1 (C : Ctx) (k : Nat) (b : CE) (ε : Env) (Q E : PV → Mem → Prop) (x : PV) (M : Mem) : Prop := Rp (ev C b ε M) (KopL2 C k x Q E) E
@[simp ↓] theorem kopL1 {k : Nat} {b : CE} : KopL1 C k b ε Q E x M ↔ Rp (ev C b ε M) (KopL2 C k x Q E) E := Iff.rfl
@[simp ↓] theorem rp_opL {k : Nat} {a b : CE} : Rp (ev C (.opL k a b) ε M) Q E ↔ Rp (ev C a ε M) (KopL1 C k b ε Q E) E := by
  show Rp ((ev C a ε M).bind fun x M => (ev C b ε M).bind fun y M => _) Q E ↔ _
  rw [rp_bind]
  unfold KopL1
  simp only [rp_bind]
  exact Iff.rfl
theorem kopL2 {c k f : Nat} {fs : List (Nat × PV)} (h0 : rd M x = .ins c fs) (h1 : seqOf M y = some xs) (h2 : C.G.meths.lookup (c, k) = some f) : KopL2 C k x Q E y M ↔ Rp (C.call f [x, y] M) Q E := by
  unfold KopL2
  rw [h0, h1]
  show Rp (match C.G.meths.lookup (c, k) with
    | some f => C.call f [x, y] M
    | none => .stuck) Q E ↔ _
  rw [h2]
/-- x[i] of an own class -/
def KopI2 (C : Ctx) (k : Nat) (x : PV) (Q E : PV → Mem → Prop) (y : PV) (M : Mem) : Prop := Rp (match rd M x with
    | .ins c _ => (match C.G.meths.lookup (c, k) with
      | some f => C.call f [x, y] M
      | none => .stuck)
    | _ => .stuck) Q E
def KopI1 (C : Ctx) (k : Nat) (b : CE) (ε : Env) (Q E : PV → Mem → Prop) (x : PV) (M : Mem) : Prop := Rp (ev C b ε M) (KopI2 C k x Q E) E
@[simp ↓] theorem kopI1 {k : Nat} {b : CE} : KopI1 C k b ε Q E x M ↔ Rp (ev C b ε M) (KopI2 C k x Q E) E := Iff.rfl
@[simp ↓] theorem rp_opI {k : Nat} {a b : CE} : Rp (ev C (.opI k a b) ε M) Q E ↔ Rp (ev C a ε M) (KopI1 C k b ε Q E) E := by
  show Rp ((ev C a ε M).bind fun x M => (ev C b ε M).bind fun y M => _) Q E ↔ _
  rw [rp_bind]
  unfold KopI1
  simp only [rp_bind]
  exact Iff.rfl
theorem kopI2 {c k f : Nat} {fs : List (Nat × PV)} (h0 : rd M x = .ins c fs) (h2 : C.G.meths.lookup (c, k) = some f) : KopI2 C k x Q E y M ↔ Rp (C.call f [x, y] M) Q E := by
  unfold KopI2
  rw [h0]
  show Rp (match C.G.meths.lookup (c, k) with
    | some f => C.call f [x, y] M
    | none => .stuck) Q E ↔ _
  rw [h2]
end
/-! ### dicts made by a comprehension -/
section
variable {C : Ctx} {ε : Env} {M : Mem} {own : List Nat} {t : CT} {ck cv : CE} {it : CI} {Q E : PV → Mem → Prop}
def RDc (C : Ctx) (m : Bool) (own : List Nat) (ck cv : CE) (t : CT) (it : CI) (ε : Env) (M : Mem) (Q E : PV → Mem → Prop) : Prop := Rp (ev C (.dcm m own ck cv t it) ε M) Q E
@[simp ↓] theorem rp_dcB {m : Bool} : Rp (ev C (.dcm m own ck cv t it) ε M) Q E ↔ RDc C m own ck cv t it ε M Q E := Iff.rfl
theorem dc_loop {fk fv : PV → PV} : ∀ (xs : List PV) (acc : List (PV × PV)), acc.length + xs.length < sline → (∀ x ∈ xs, isKey (fk x) = true) → (∀ x ∈ xs, ∀ acc, ∃ ε1, bindT t x (wipeE ε own) (M ++ [Cell.dic acc]) = some ε1 ∧ ev C ck ε1 (M ++ [Cell.dic acc]) = .ok (fk x) (M ++ [Cell.dic acc]) ∧ ev C cv ε1 (M ++ [Cell.dic acc]) = .ok (fv x) (M ++ [Cell.dic acc])) →
    dcLoop own t (fun ε M => ev C ck ε M) (fun ε M => ev C cv ε M) [] ε M.length xs (M ++ [Cell.dic acc]) = .ok () (M ++ [Cell.dic (xs.foldl (fun acc x => putKV (fk x) (fv x) acc) acc)])
  | [], acc, _, _, _ => rfl
  | x :: r, acc, hl, hk, h => by
    obtain ⟨ε1, h1, h2, h3⟩ := h x List.mem_cons_self acc
    have hput : (putKV (fk x) (fv x) acc).length ≤ acc.length + 1 := by
      unfold putKV
      split <;> simp
    rw [List.length_cons] at hl
    show (match still [] (M ++ [Cell.dic acc]), bindT t x (wipeE ε own) (M ++ [Cell.dic acc]) with
      | true, some ε1 => (match ev C ck ε1 (M ++ [Cell.dic acc]) with
        | .ok k M1 => (match ev C cv ε1 M1 with
          | .ok v M2 => (match putD M.length k v M2 with
            | some M3 => dcLoop own t (fun ε M => ev C ck ε M) (fun ε M => ev C cv ε M) [] ε M.length r M3
            | none => .stuck)
          | _ => .stuck)
        | _ => .stuck)
      | _, _ => .stuck) = _
    rw [h1, still_nil]
    show (match ev C ck ε1 (M ++ [Cell.dic acc]) with
        | .ok k M1 => (match ev C cv ε1 M1 with
          | .ok v M2 => (match putD M.length k v M2 with
            | some M3 => dcLoop own t (fun ε M => ev C ck ε M) (fun ε M => ev C cv ε M) [] ε M.length r M3
            | none => .stuck)
          | _ => .stuck)
        | _ => .stuck) = _
    rw [h2]
    show (match ev C cv ε1 (M ++ [Cell.dic acc]) with
          | .ok v M2 => (match putD M.length (fk x) v M2 with
            | some M3 => dcLoop own t (fun ε M => ev C ck ε M) (fun ε M => ev C cv ε M) [] ε M.length r M3
            | none => .stuck)
          | _ => .stuck) = _
    rw [h3]
    have e : putD M.length (fk x) (fv x) (M ++ [Cell.dic acc]) = some (M ++ [Cell.dic (putKV (fk x) (fv x) acc)]) := by
      unfold putD
      rw [hk x List.mem_cons_self, List.getElem?_append_right (Nat.le_refl _), Nat.sub_self]
      show (match decide (acc.length < sline) with
        | true => some ((M ++ [Cell.dic acc]).set M.length (.dic (putKV (fk x) (fv x) acc)))
        | false => none) = _
      rw [decide_eq_true (by omega), List.set_append_right _ _ (Nat.le_refl _), Nat.sub_self]
      rfl
    show (match putD M.length (fk x) (fv x) (M ++ [Cell.dic acc]) with
            | some M3 => dcLoop own t (fun ε M => ev C ck ε M) (fun ε M => ev C cv ε M) [] ε M.length r M3
            | none => .stuck) = _
    rw [e]
    exact dc_loop r _ (by omega) (fun y hy => hk y (List.mem_cons_of_mem _ hy)) fun y hy => h y (List.mem_cons_of_mem _ hy)
theorem ltd_of {n : Nat} : ∀ {kvs : List (PV × PV)}, (∀ p ∈ kvs, p.1.lt n = true ∧ p.2.lt n = true) → PV.ltd n kvs = true
  | [], _ => rfl
  | (k, v) :: r, h => by
    show (PV.lt n k && (PV.lt n v && PV.ltd n r)) = true
    obtain ⟨h1, h2⟩ := h (k, v) List.mem_cons_self
    rw [show PV.lt n k = true from h1, show PV.lt n v = true from h2, ltd_of fun p hp => h p (List.mem_cons_of_mem _ hp)]
    rfl
/-- {fk x: fv x for x in xs} -/
theorem rp_dcm (fk fv : PV → PV) (h : Rp (evi C it ε M) (fun its N => N = M ∧ its.2 = [] ∧ its.1.length < sline ∧ (∀ x ∈ its.1, isKey (fk x) = true) ∧ PV.ltd M.length (its.1.foldl (fun acc x => putKV (fk x) (fv x) acc) []) = true ∧
    (∀ x ∈ its.1, ∀ acc, ∃ ε1, bindT t x (wipeE ε own) (M ++ [Cell.dic acc]) = some ε1 ∧ ev C ck ε1 (M ++ [Cell.dic acc]) = .ok (fk x) (M ++ [Cell.dic acc]) ∧ ev C cv ε1 (M ++ [Cell.dic acc]) = .ok (fv x) (M ++ [Cell.dic acc])) ∧
    Q (.dic (its.1.foldl (fun acc x => putKV (fk x) (fv x) acc) [])) M) E) : RDc C false own ck cv t it ε M Q E := by
  show Rp ((evi C it ε M).bind _) Q E
  rw [rp_bind]
  revert h
  cases evi C it ε M with
  | stuck => exact fun h => h.elim
  | err e N => exact fun h => h
  | ok its N =>
    rintro ⟨rfl, h1, h2, h3, h4, h5, h6⟩
    obtain ⟨xs, src⟩ := its
    simp only at h1
    subst h1
    show Rp ((dcLoop own t (fun ε M => ev C ck ε M) (fun ε M => ev C cv ε M) [] ε N.length xs (N ++ [Cell.dic []])).bind fun _ M1 => dcEnd false N M1) Q E
    rw [dc_loop xs [] (by simpa using h2) h3 h5]
    show Rp (dcEnd false N (N ++ [Cell.dic _])) Q E
    have e : dcEnd false N (N ++ [Cell.dic (xs.foldl (fun acc x => putKV (fk x) (fv x) acc) [])]) = .ok (.dic (xs.foldl (fun acc x => putKV (fk x) (fv x) acc) [])) N := by
      unfold dcEnd
      simp only [List.getElem?_append_right (Nat.le_refl N.length), Nat.sub_self, List.getElem?_cons_zero]
      rw [List.set_append_right _ _ (Nat.le_refl _), Nat.sub_self]
      show Res.ok _ (fin N _ (N ++ [Cell.dead])).2 = _
      rw [fin_of (v := .dic _) h4 .app]
      simp
    rw [e]
    exact h6
/-- keys that are all different -/
theorem put_all {α : Type} (fk : α → Str) (fv : α → PV) : ∀ (xs : List α) (acc : List (PV × PV)), (xs.map fk).Nodup → (∀ p ∈ acc, ∃ u, p.1 = .str u ∧ u ∉ xs.map fk) → xs.foldl (fun acc x => putKV (.str (fk x)) (fv x) acc) acc = acc ++ xs.map fun x => (.str (fk x), fv x)
  | [], acc, _, _ => by simp
  | x :: r, acc, hn, h => by
    rw [List.map_cons, List.nodup_cons] at hn
    rw [List.foldl_cons, put_new fun p hp => by
      obtain ⟨u, h1, h2⟩ := h p hp
      exact ⟨u, h1, fun e => h2 (by rw [e]; exact List.mem_cons_self)⟩, put_all fk fv r _ hn.2 fun p hp => ?_]
    · simp
    · rcases List.mem_append.mp hp with hp | hp
      · obtain ⟨u, h1, h2⟩ := h p hp
        exact ⟨u, h1, fun e => h2 (List.mem_cons_of_mem _ e)⟩
      · rw [List.mem_singleton.mp hp]
        exact ⟨_, rfl, hn.1⟩
end
/-! ### dict displays -/
section
variable {C : Ctx} {ε : Env} {M : Mem} {ks : List CE} {Q E : PV → Mem → Prop}
def RDi (C : Ctx) (m : Bool) (ks : List CE) (ε : Env) (M : Mem) (Q E : PV → Mem → Prop) : Prop := Rp (ev C (.dic m ks []) ε M) Q E
@[simp ↓] theorem rp_diB {m : Bool} {k : CE} {r : List CE} : Rp (ev C (.dic m (k :: r) []) ε M) Q E ↔ RDi C m (k :: r) ε M Q E := Iff.rfl
/-- {..}, kept as a tree -/
theorem rp_disp {k : CE} {r : List CE} (h : Rp (evs C (k :: r) ε (M ++ [Cell.dic []])) (fun ps N => N = M ++ [.dic []] ∧ ∃ kvs, pairUp ps = some kvs ∧ kvs.length ≤ 15 ∧ PV.ltd M.length (mergeP [] kvs) = true ∧ Q (.dic (mergeP [] kvs)) M) E) : RDi C false (k :: r) ε M Q E := by
  show Rp ((evs C (k :: r) ε (M ++ [Cell.dic []])).bind fun ps M1 => dicEnd false M ps M1) Q E
  rw [rp_bind]
  revert h
  generalize evs C (k :: r) ε (M ++ [Cell.dic []]) = q
  cases q with
  | stuck => exact fun h => h.elim
  | err e N => exact fun h => h
  | ok ps N =>
    rintro ⟨rfl, kvs, h1, h2, h3, h4⟩
    show Rp (dicEnd false M ps (M ++ [Cell.dic []])) Q E
    have e : dicEnd false M ps (M ++ [Cell.dic []]) = .ok (.dic (mergeP [] kvs)) M := by
      unfold dicEnd
      simp only [h1, List.getElem?_append_right (Nat.le_refl M.length), Nat.sub_self, List.getElem?_cons_zero, decide_eq_true h2]
      show Res.ok (PV.dic (mergeP [] kvs)) (fin M (.dic (mergeP [] kvs)) (((M ++ [Cell.dic []]).set M.length (.dic (mergeP [] kvs))).set M.length .dead)).2 = _
      rw [List.set_set, List.set_append_right _ _ (Nat.le_refl _), Nat.sub_self]
      show Res.ok (PV.dic (mergeP [] kvs)) (fin M (.dic (mergeP [] kvs)) (M ++ [Cell.dead])).2 = _
      rw [fin_of (v := .dic (mergeP [] kvs)) h3 .app]
      simp
    rw [e]
    exact h4
/-- {..}, in a cell -/
theorem rp_dispC {k : CE} {r : List CE} (h : Rp (evs C (k :: r) ε (M ++ [Cell.dic []])) (fun ps N => N = M ++ [.dic []] ∧ ∃ kvs, pairUp ps = some kvs ∧ kvs.length ≤ 15 ∧ Q (.ref M.length) (M ++ [.dic (mergeP [] kvs)])) E) : RDi C true (k :: r) ε M Q E := by
  show Rp ((evs C (k :: r) ε (M ++ [Cell.dic []])).bind fun ps M1 => dicEnd true M ps M1) Q E
  rw [rp_bind]
  revert h
  generalize evs C (k :: r) ε (M ++ [Cell.dic []]) = q
  cases q with
  | stuck => exact fun h => h.elim
  | err e N => exact fun h => h
  | ok ps N =>
    rintro ⟨rfl, kvs, h1, h2, h4⟩
    show Rp (dicEnd true M ps (M ++ [Cell.dic []])) Q E
    have e : dicEnd true M ps (M ++ [Cell.dic []]) = .ok (.ref M.length) (M ++ [.dic (mergeP [] kvs)]) := by
      unfold dicEnd
      simp only [h1, List.getElem?_append_right (Nat.le_refl M.length), Nat.sub_self, List.getElem?_cons_zero, decide_eq_true h2]
      show Res.ok (PV.ref M.length) ((M ++ [Cell.dic []]).set M.length (.dic (mergeP [] kvs))) = _
      rw [List.set_append_right _ _ (Nat.le_refl _), Nat.sub_self]
      rfl
    rw [e]
    exact h4
theorem merge3 {a b c : Str} {x y z : PV} (h1 : a ≠ b) (h2 : a ≠ c) (h3 : b ≠ c) : mergeP [] [(.str a, x), (.str b, y), (.str c, z)] = [(.str a, x), (.str b, y), (.str c, z)] := by
  show putKV (.str c) z (putKV (.str b) y (putKV (.str a) x [])) = _
  rw [put_new (l := []) (fun p hp => by cases hp), put_new fun p hp => ⟨a, by rw [List.mem_singleton.mp hp], h1⟩, put_new fun p hp => by
    rcases List.mem_cons.mp hp with rfl | hp
    · exact ⟨a, rfl, h2⟩
    · exact ⟨b, by rw [List.mem_singleton.mp hp], h3⟩]
  rfl
end
/-! ### dicts of texts and next hops -/
def hopV : Option Str → PV
  | none => .non
  | some s => .str s
/-- a dict by names -/
def dicF (ns : List Str) (f : Str → PV) : List (PV × PV) := ns.map fun n => (.str n, f n)
theorem getK_str (s : Str) : ∀ (kvs : List (PV × PV)), getK (.str s) kvs = (kvs.find? fun kv => eqK kv.1 (.str s)).map (·.2)
  | [] => rfl
  | (k, v) :: r => by
    show (if eqK k (.str s) then some v else getK (.str s) r) = _
    rw [List.find?_cons]
    by_cases h : eqK k (.str s) = true
    · rw [if_pos h]
      show _ = Option.map _ (match eqK k (.str s) with | true => some (k, v) | false => _)
      rw [h]
      rfl
    · have h' : eqK k (.str s) = false := by simpa using h
      rw [if_neg h, getK_str s r]
      show _ = Option.map _ (match eqK k (.str s) with | true => some (k, v) | false => _)
      rw [h']
theorem getK_dicF {f : Str → PV} {s : Str} : ∀ {ns : List Str}, getK (.str s) (dicF ns f) = if s ∈ ns then some (f s) else none
  | [] => rfl
  | n :: r => by
    show (if (n == s) then some (f n) else getK (.str s) (dicF r f)) = _
    by_cases h : n = s
    · subst h
      simp
    · rw [if_neg (by simpa using h), getK_dicF]
      by_cases h2 : s ∈ r
      · rw [if_pos h2, if_pos (List.mem_cons_of_mem _ h2)]
      · rw [if_neg h2, if_neg fun z => (List.mem_cons.mp z).elim (fun e => h e.symm) h2]
theorem dicF_fit {ns : List Str} {f : Str → PV} (h : ∀ s ∈ ns, s.length ≤ 1000) : ((dicF ns f).all fun kv => keyFits kv.1) = true := List.all_eq_true.mpr fun p hp => by
  obtain ⟨s, hs, rfl⟩ := List.mem_map.mp hp
  exact decide_eq_true (by have := h s hs; unfold sline; omega)
theorem dicF_keys {ns : List Str} {f : Str → PV} : (dicF ns f).map (·.1) = ns.map .str := by
  unfold dicF
  rw [List.map_map]
  rfl
theorem ltd_dicF {n : Nat} {ns : List Str} {f : Str → PV} (h : ∀ s ∈ ns, (f s).lt n = true) : PV.ltd n (dicF ns f) = true := ltd_of fun p hp => by
  obtain ⟨s, hs, rfl⟩ := List.mem_map.mp hp
  exact ⟨rfl, h s hs⟩
theorem ev_of {r : Res PV} {a : PV} {M : Mem} (h : Rp r (fun v N => v = a ∧ N = M) nev) : r = .ok a M := by
  obtain ⟨v, N, e, rfl, rfl⟩ := h.get
  exact e
/-- {name: f name for name in names} -/
theorem rp_dcS {C : Ctx} {ε : Env} {M : Mem} {own : List Nat} {t : CT} {ck cv : CE} {it : CI} {Q E : PV → Mem → Prop} (f : Str → PV) {ns : List Str} (hn : ns.Nodup) (hl : ns.length ≤ 1000) (hf : ∀ s ∈ ns, (f s).lt M.length = true)
    (h : Rp (evi C it ε M) (fun its N => N = M ∧ its = (ns.map .str, []) ∧ (∀ s ∈ ns, ∀ acc, ∃ ε1, bindT t (.str s) (wipeE ε own) (M ++ [Cell.dic acc]) = some ε1 ∧ ev C ck ε1 (M ++ [Cell.dic acc]) = .ok (.str s) (M ++ [Cell.dic acc]) ∧ ev C cv ε1 (M ++ [Cell.dic acc]) = .ok (f s) (M ++ [Cell.dic acc])) ∧ Q (.dic (dicF ns f)) M) E) : RDc C false own ck cv t it ε M Q E := by
  refine rp_dcm id (fun x => match x with
    | .str s => f s
    | _ => .non) ?_
  have ef : ∀ (ms : List Str) (acc : List (PV × PV)), (ms.map PV.str).foldl (fun acc x => putKV (id x) (match x with
    | .str s => f s
    | _ => .non) acc) acc = ms.foldl (fun acc s => putKV (.str s) (f s) acc) acc := fun ms => by
    induction ms with
    | nil => intro acc; rfl
    | cons s ms ih => intro acc; exact ih _
  have eg : ns.foldl (fun acc s => putKV (.str s) (f s) acc) [] = dicF ns f := by
    have := put_all id f ns [] (by simpa using hn) (fun p hp => by cases hp)
    simpa [dicF] using this
  revert h
  cases evi C it ε M with
  | stuck => exact fun h => h.elim
  | err e N => exact fun h => h
  | ok its N =>
    rintro ⟨rfl, rfl, h3, h4⟩
    refine ⟨rfl, rfl, by rw [List.length_map]; unfold sline; omega, fun x hx => ?_, ?_, fun x hx acc => ?_, ?_⟩
    · obtain ⟨s, _, rfl⟩ := List.mem_map.mp hx
      rfl
    · show PV.ltd _ ((ns.map PV.str).foldl _ []) = true
      rw [ef, eg]
      exact ltd_dicF hf
    · obtain ⟨s, hs, rfl⟩ := List.mem_map.mp hx
      exact h3 s hs acc
    · show Q (.dic ((ns.map PV.str).foldl _ [])) _
      rw [ef, eg]
      exact h4
/-! ### more -/
theorem wp_setfG {C : Ctx} {ε : Env} {M : Mem} {P : Out → Prop} {r : List CS} {L c k : Nat} {e : CE} {fs : List (Nat × PV)} {i : Nat} (h : Rp (ev C e ε M) (fun v N => ε[i]? = some (some (.ref L)) ∧ N[L]? = some (.ins c fs) ∧ (decide (fs.length < 1000) && C.G.flds.contains (c, k)) = true ∧ Wp (exs C r ε (N.set L (.ins c (putF k v fs)))) P) (Ker ε P)) : WSetf C (.loc i) k e r ε M P := wp_setf h
theorem fin_setApp {M K : Mem} {v : PV} {i : Nat} {d : Cell} (hv : v.lt M.length = true) (hd : d.lt M.length = true) : fin M v (M.set i d ++ K) = (v, M.set i d) := by
  rw [fin_of hv ((Grow.refl.set hd).appR K), List.take_append_of_le_length (by simp), List.take_of_length_le (by simp)]
/-- == of tuples, lists of texts -/
theorem shapedT {a : List Str} (h : ∀ x ∈ a, PyData.strOk x = true) : PySem.SeqAt.shaped (.tuple (a.map .str)) = true := shaped_strs h
theorem eqv_strsD (a b : List Str) : PyData.eqvAll (a.map .str) (b.map .str) = decide (a = b) := eqv_strs a b
theorem eq_strsT {M : Mem} {a b : List Str} (ha : ∀ x ∈ a, PyData.strOk x = true) (hb : ∀ x ∈ b, PyData.strOk x = true) : eqData M (.tup (a.map .str)) (.tup (b.map .str)) = some (decide (a = b)) := by
  have e : ∀ c : List Str, deep M (.tup (c.map .str)) = some (.tuple (c.map .str)) := fun c => by
    show (deepWs _ (c.map PV.str)).map PyData.tuple = _
    rw [deepWs_strs]
    rfl
  show (deep M (.tup (a.map .str))).bind (fun d => (deep M (.tup (b.map .str))).bind fun e => if PySem.SeqAt.shaped d && PySem.SeqAt.shaped e then some (PyData.eqv d e) else none) = _
  rw [e a, e b]
  show (if PySem.SeqAt.shaped (.tuple (a.map .str)) && PySem.SeqAt.shaped (.tuple (b.map .str)) then some (PyData.eqvAll (a.map .str) (b.map .str)) else none) = _
  rw [shapedT ha, shapedT hb, eqv_strsD]
  rfl
/-- next hops held against each other -/
theorem eq_hop {M : Mem} {a b : Option Str} : eqData M (hopV a) (hopV b) = some (decide (a = b)) := by
  cases a <;> cases b
  · rfl
  · rfl
  · rfl
  · rename_i x y
    show some (x == y) = _
    by_cases h : x = y
    · subst h; simp
    · simp [h]
theorem hop_rd {M : Mem} (a : Option Str) : ∀ c fs, rd M (hopV a) ≠ .ins c fs := fun c fs h => by cases a <;> cases h
section
variable {C : Ctx} {M : Mem} {Q E : PV → Mem → Prop} {a b : Option Str} {xs ys : List Str}
theorem rp_neH : Rp (cmpop C .NotEq (hopV a) (hopV b) M) Q E ↔ Q (.bl (!decide (a = b))) M := rp_neD (hop_rd a) (hop_rd b) eq_hop
theorem rp_eqH : Rp (cmpop C .Eq (hopV a) (hopV b) M) Q E ↔ Q (.bl (decide (a = b))) M := rp_eqD (hop_rd a) (hop_rd b) eq_hop
theorem rp_eqTS (ha : ∀ x ∈ xs, PyData.strOk x = true) (hb : ∀ x ∈ ys, PyData.strOk x = true) : Rp (cmpop C .Eq (.tup (xs.map .str)) (.tup (ys.map .str)) M) Q E ↔ Q (.bl (decide (xs = ys))) M := rp_eqD (fun c fs h => by cases h) (fun c fs h => by cases h) (eq_strsT ha hb)
theorem rp_neTS (ha : ∀ x ∈ xs, PyData.strOk x = true) (hb : ∀ x ∈ ys, PyData.strOk x = true) : Rp (cmpop C .NotEq (.tup (xs.map .str)) (.tup (ys.map .str)) M) Q E ↔ Q (.bl (!decide (xs = ys))) M := rp_neD (fun c fs h => by cases h) (fun c fs h => by cases h) (eq_strsT ha hb)
def hopStr (a : Option Str) : Prop := ∀ s, a = some s → PyData.strOk s = true
theorem deep_hop (ha : hopStr a) (hb : hopStr b) : eqDeep M (hopV a) (hopV b) = some (decide (a = b)) := by
  cases a with
  | none => cases b with
    | none => rfl
    | some y =>
      show (if PySem.SeqAt.shaped .none && (PyData.strOk y && decide (0 ≤ 64)) then some (PyData.eqv .none (.str y)) else none) = _
      rw [hb y rfl]
      rfl
  | some x => cases b with
    | none =>
      show (if (PyData.strOk x && decide (0 ≤ 64)) && PySem.SeqAt.shaped .none then some (PyData.eqv (.str x) .none) else none) = _
      rw [ha x rfl]
      rfl
    | some y =>
      show (if (PyData.strOk x && decide (0 ≤ 64)) && (PyData.strOk y && decide (0 ≤ 64)) then some (x == y) else none) = _
      rw [ha x rfl, hb y rfl]
      show some (x == y) = _
      by_cases h : x = y
      · subst h; simp
      · simp [h]
/-- == of dicts of next hops -/
theorem eqHit_hops {ns : List Str} {h1 h2 : Str → Option Str} : ∀ ms : List Str, (∀ s ∈ ms, s ∈ ns) → (∀ s ∈ ms, hopStr (h1 s) ∧ hopStr (h2 s)) → eqHit M (dicF ns fun s => hopV (h2 s)) (dicF ms fun s => hopV (h1 s)) = some (decide (∀ s ∈ ms, h1 s = h2 s))
  | [], _, _ => by simp [dicF, eqHit]
  | s :: ms, hm, hh => by
    have hs := hm s List.mem_cons_self
    obtain ⟨q1, q2⟩ := hh s List.mem_cons_self
    show (match getK (.str s) (dicF ns fun s => hopV (h2 s)) with
      | none => some false
      | some y => (eqDeep M (hopV (h1 s)) y).bind fun e => (eqHit M (dicF ns fun s => hopV (h2 s)) (dicF ms fun s => hopV (h1 s))).map fun b => e && b) = _
    rw [getK_dicF, if_pos hs]
    show ((eqDeep M (hopV (h1 s)) (hopV (h2 s))).bind fun e => (eqHit M (dicF ns fun s => hopV (h2 s)) (dicF ms fun s => hopV (h1 s))).map fun b => e && b) = _
    rw [deep_hop q1 q2, eqHit_hops ms (fun t ht => hm t (List.mem_cons_of_mem _ ht)) fun t ht => hh t (List.mem_cons_of_mem _ ht)]
    show some (decide (h1 s = h2 s) && decide (∀ s ∈ ms, h1 s = h2 s)) = _
    congr 1
    rw [Bool.eq_iff_iff]
    simp
theorem rp_eqDH {ns : List Str} {h1 h2 : Str → Option Str} (hh : ∀ s ∈ ns, hopStr (h1 s) ∧ hopStr (h2 s)) : Rp (cmpop C .Eq (.dic (dicF ns fun s => hopV (h1 s))) (.dic (dicF ns fun s => hopV (h2 s))) M) Q E ↔ Q (.bl (decide (∀ s ∈ ns, h1 s = h2 s))) M := by
  have e : cmpop C .Eq (.dic (dicF ns fun s => hopV (h1 s))) (.dic (dicF ns fun s => hopV (h2 s))) M = .ok (.bl (decide (∀ s ∈ ns, h1 s = h2 s))) M := by
    show ofOpt M ((eqDic M (dicF ns fun s => hopV (h1 s)) (dicF ns fun s => hopV (h2 s))).map .bl) = _
    unfold eqDic
    have hl : (dicF ns fun s => hopV (h1 s)).length = (dicF ns fun s => hopV (h2 s)).length := by unfold dicF; simp
    rw [decide_eq_true hl]
    show ofOpt M ((eqHit M (dicF ns fun s => hopV (h2 s)) (dicF ns fun s => hopV (h1 s))).map .bl) = _
    rw [eqHit_hops ns (fun s hs => hs) hh]
    rfl
  rw [e]
  exact Iff.rfl
end
/-! ### comprehensions with a test that changes nothing -/
theorem lcP_loop {C : Ctx} {ε : Env} {M : Mem} {own : List Nat} {t : CT} {ce c : CE} {f : PV → PV} {p : PV → Bool} : ∀ (xs acc : List PV), acc.length + xs.length ≤ sline → (∀ x ∈ xs, ∀ acc, ∃ ε1, bindT t x (wipeE ε own) (M ++ [Cell.lst acc]) = some ε1 ∧ (ev C c ε1 (M ++ [Cell.lst acc])).test = .ok (p x) (M ++ [Cell.lst acc]) ∧ (p x = true → ev C ce ε1 (M ++ [Cell.lst acc]) = .ok (f x) (M ++ [Cell.lst acc]))) →
    lcLoop own t (fun ε M => (ev C c ε M).test) (fun ε M => ev C ce ε M) [] ε M.length xs (M ++ [Cell.lst acc]) = .ok () (M ++ [Cell.lst (acc ++ (xs.filter p).map f)])
  | [], acc, _, _ => by
    show Res.ok () (M ++ [Cell.lst acc]) = _
    simp
  | x :: r, acc, hl, h => by
    obtain ⟨ε1, h1, h2, h3⟩ := h x List.mem_cons_self acc
    rw [List.length_cons] at hl
    show (match still [] (M ++ [Cell.lst acc]), bindT t x (wipeE ε own) (M ++ [Cell.lst acc]) with
      | true, some ε1 => (match (ev C c ε1 (M ++ [Cell.lst acc])).test with
        | .ok true M1 => (match ev C ce ε1 M1 with
          | .ok v M2 => (match M2[M.length]? with
            | some (.lst acc) => (match decide (acc.length < sline) with
              | true => lcLoop own t (fun ε M => (ev C c ε M).test) (fun ε M => ev C ce ε M) [] ε M.length r (M2.set M.length (.lst (acc ++ [v])))
              | false => .stuck)
            | _ => .stuck)
          | _ => .stuck)
        | .ok false M1 => lcLoop own t (fun ε M => (ev C c ε M).test) (fun ε M => ev C ce ε M) [] ε M.length r M1
        | _ => .stuck)
      | _, _ => .stuck) = _
    rw [h1, still_nil]
    simp only [h2]
    cases hp : p x with
    | false =>
      rw [List.filter_cons, hp]
      exact lcP_loop r acc (by omega) fun y hy => h y (List.mem_cons_of_mem _ hy)
    | true =>
      rw [List.filter_cons, hp]
      have at0 : (M ++ [Cell.lst acc])[M.length]? = some (.lst acc) := by simp
      simp only [h3 hp, at0, decide_eq_true (show acc.length < sline by omega)]
      have st0 : (M ++ [Cell.lst acc]).set M.length (.lst (acc ++ [f x])) = M ++ [Cell.lst (acc ++ [f x])] := by simp
      rw [st0, lcP_loop r (acc ++ [f x]) (by rw [List.length_append, List.length_singleton]; omega) fun y hy => h y (List.mem_cons_of_mem _ hy)]
      simp
/-- [f x for x in xs if p x] -/
theorem rp_lcP {C : Ctx} {ε : Env} {M : Mem} {own : List Nat} {t : CT} {ce c : CE} {it : CI} {Q E : PV → Mem → Prop} (f : PV → PV) (p : PV → Bool) (h : Rp (evi C it ε M) (fun its N => N = M ∧ its.2 = [] ∧ its.1.length ≤ sline ∧ (∀ x ∈ its.1, p x = true → (f x).lt M.length = true) ∧
    (∀ x ∈ its.1, ∀ acc, ∃ ε1, bindT t x (wipeE ε own) (M ++ [Cell.lst acc]) = some ε1 ∧ (ev C c ε1 (M ++ [Cell.lst acc])).test = .ok (p x) (M ++ [Cell.lst acc]) ∧ (p x = true → ev C ce ε1 (M ++ [Cell.lst acc]) = .ok (f x) (M ++ [Cell.lst acc]))) ∧ Q (.lst ((its.1.filter p).map f)) M) E) : RLc C false own ce t it [c] ε M Q E := by
  show Rp ((evi C it ε M).bind _) Q E
  rw [rp_bind]
  revert h
  cases evi C it ε M with
  | stuck => exact fun h => h.elim
  | err e N => exact fun h => h
  | ok its N =>
    rintro ⟨rfl, h1, h2, h3, h4, h5⟩
    obtain ⟨xs, src⟩ := its
    simp only at h1
    subst h1
    show Rp ((lcLoop own t (fun ε M => (ev C c ε M).test) (fun ε M => ev C ce ε M) [] ε N.length xs (N ++ [Cell.lst []])).bind fun _ M1 => lcEnd false N M1) Q E
    rw [lcP_loop xs [] (by simpa using h2) h4]
    show Rp (lcEnd false N (N ++ [Cell.lst ([] ++ (xs.filter p).map f)])) Q E
    rw [List.nil_append]
    have hv : PV.lt N.length (.lst ((xs.filter p).map f)) = true := lts_of fun y hy => by
      obtain ⟨x, hx, rfl⟩ := List.mem_map.mp hy
      obtain ⟨hx1, hx2⟩ := List.mem_filter.mp hx
      exact h3 x hx1 hx2
    have e : lcEnd false N (N ++ [Cell.lst ((xs.filter p).map f)]) = .ok (.lst ((xs.filter p).map f)) N := by
      unfold lcEnd
      simp only [List.getElem?_append_right (Nat.le_refl N.length), Nat.sub_self, List.getElem?_cons_zero]
      rw [List.set_append_right _ _ (Nat.le_refl _), Nat.sub_self]
      show Res.ok _ (fin N _ (N ++ [Cell.dead])).2 = _
      rw [fin_of hv .app]
      simp
    rw [e]
    exact h5
theorem test_of {r : Res PV} {b : Bool} {M : Mem} (h : Rp r (fun v N => v = .bl b ∧ N = M) nev) : r.test = .ok b M := by
  rw [ev_of h]
  rfl
/-- dict(d) -/
theorem rp_dictC {M : Mem} {kvs : List (PV × PV)} {Q E : PV → Mem → Prop} (h : kvs.length ≤ 1000) (hq : Q (.ref M.length) (M ++ [.dic kvs])) : Rp (bfn .dictNew true [.dic kvs] M) Q E := by
  have e : bfn .dictNew true [.dic kvs] M = .ok (.ref M.length) (M ++ [.dic kvs]) := by
    show guard (decide (kvs.length ≤ sline)) (mkD true kvs M) = _
    rw [decide_eq_true (show kvs.length ≤ sline by unfold sline; omega)]
    rfl
  rw [e]
  exact hq
/-- a key of the dict gets another value -/
theorem dicF_upd {ks : List Str} {f : Str → PV} {s : Str} {v : PV} (hs : s ∈ ks) : putKV (.str s) v (dicF ks f) = dicF ks fun t => if t = s then v else f t := by
  unfold putKV
  have ha : ((dicF ks f).any fun kv => eqK kv.1 (.str s)) = true := List.any_eq_true.mpr ⟨(.str s, f s), List.mem_map.mpr ⟨s, hs, rfl⟩, by show (s == s) = true; simp⟩
  rw [ha]
  show (dicF ks f).map _ = _
  unfold dicF
  rw [List.map_map]
  refine List.map_congr_left fun t _ => ?_
  show (match (t == s) with
    | true => (PV.str t, v)
    | false => (PV.str t, f t)) = (PV.str t, if t = s then v else f t)
  by_cases e : t = s
  · subst e; simp
  · rw [if_neg e, show (t == s) = false by simpa using e]
@[simp ↓] theorem rp_neBl {C : Ctx} {M : Mem} {a b : Bool} {Q E : PV → Mem → Prop} : Rp (cmpop C .NotEq (.bl a) (.bl b) M) Q E ↔ Q (.bl (!(a == b))) M := Iff.rfl
@[simp ↓] theorem rp_eqBl {C : Ctx} {M : Mem} {a b : Bool} {Q E : PV → Mem → Prop} : Rp (cmpop C .Eq (.bl a) (.bl b) M) Q E ↔ Q (.bl (a == b)) M := Iff.rfl
end
end WT
set_option maxRecDepth 100000
set_option autoImplicit false
/-! Updates as models: what a law draws. -/
namespace WT
noncomputable section
open PySem (Str CmpOp Operator PyData)
/-- a next hop of a network -/
def hopOk (nodes exits : List Str) (x : Option Str) : Prop := ∀ s, x = some s → s ∈ nodes ∨ s ∈ exits
/-- a dict of next hops -/
def TB (nodes exits : List Str) (v : PV) (h : Str → Option Str) : Prop := ∃ ks : List Str, ks.Perm nodes ∧ v = .dic (dicF ks fun s => hopV (h s)) ∧ ∀ n ∈ nodes, hopOk nodes exits (h n)
structure Mdl where
  nodes : List Str
  exits : List Str
  fl : List Str
  to : Str → PV
  tn : Str → PV
  old : Str → Str → Option Str
  new : Str → Str → Option Str
def Mdl.flv (m : Mdl) : PV := .dic (dicF m.fl fun f => .tup [m.to f, m.tn f])
def Mdl.pv (m : Mdl) : PV := .dic [(.str "nodes", .lst (m.nodes.map .str)), (.str "exits", .lst (m.exits.map .str)), (.str "flows", m.flv)]
structure GM (m : Mdl) (a b : Nat) : Prop where
  n1 : 1 ≤ m.nodes.length
  n2 : m.nodes.length ≤ a
  e1 : 1 ≤ m.exits.length
  e2 : m.exits.length ≤ 3
  f1 : 1 ≤ m.fl.length
  f2 : m.fl.length ≤ b
  good : Good (m.nodes ++ m.exits ++ m.fl)
  nd : (m.nodes ++ m.exits ++ m.fl).Nodup
  to : ∀ f ∈ m.fl, TB m.nodes m.exits (m.to f) (m.old f)
  tn : ∀ f ∈ m.fl, TB m.nodes m.exits (m.tn f) (m.new f)
theorem TB.lt {nodes exits : List Str} {v : PV} {h : Str → Option Str} {n : Nat} (t : TB nodes exits v h) : v.lt n = true := by
  obtain ⟨ks, _, rfl, _⟩ := t
  exact ltd_dicF fun s _ => by cases h s <;> rfl
theorem TB.get {ns es : List Str} {h : Str → Option Str} {v : PV} (t : TB ns es v h) : ∃ kvs, v = .dic kvs ∧ (∀ s ∈ ns, getK (.str s) kvs = some (hopV (h s))) ∧ (∀ s ∈ ns, hopOk ns es (h s)) ∧ kvs.length = ns.length := by
  obtain ⟨ks, hp, rfl, hh⟩ := t
  exact ⟨_, rfl, fun s hs => by rw [getK_dicF, if_pos (hp.mem_iff.mpr hs)], hh, by unfold dicF; rw [List.length_map, hp.length_eq]⟩
namespace GM
variable {m : Mdl} {a b : Nat}
theorem goodN (g : GM m a b) : Good m.nodes := fun s hs => g.good s (List.mem_append_left _ (List.mem_append_left _ hs))
theorem goodE (g : GM m a b) : Good m.exits := fun s hs => g.good s (List.mem_append_left _ (List.mem_append_right _ hs))
theorem goodF (g : GM m a b) : Good m.fl := fun s hs => g.good s (List.mem_append_right _ hs)
theorem ndNE (g : GM m a b) : (m.nodes ++ m.exits).Nodup := (List.nodup_append.mp g.nd).1
theorem ndN (g : GM m a b) : m.nodes.Nodup := (List.nodup_append.mp g.ndNE).1
theorem ndE (g : GM m a b) : m.exits.Nodup := (List.nodup_append.mp g.ndNE).2.1
theorem ndF (g : GM m a b) : m.fl.Nodup := (List.nodup_append.mp g.nd).2.1
theorem lt (g : GM m a b) {n : Nat} : m.pv.lt n = true := by
  have h1 : PV.lts n (m.nodes.map .str) = true := lts_of fun x hx => by
    obtain ⟨s, _, rfl⟩ := List.mem_map.mp hx
    rfl
  have h2 : PV.lts n (m.exits.map .str) = true := lts_of fun x hx => by
    obtain ⟨s, _, rfl⟩ := List.mem_map.mp hx
    rfl
  have h3 : PV.ltd n (dicF m.fl fun f => .tup [m.to f, m.tn f]) = true := ltd_dicF fun f hf => by
    show (PV.lt n (m.to f) && (PV.lt n (m.tn f) && true)) = true
    rw [(g.to f hf).lt, (g.tn f hf).lt]
    rfl
  show (true && (PV.lts n (m.nodes.map .str) && (true && (PV.lts n (m.exits.map .str) && (true && (PV.ltd n (dicF m.fl fun f => .tup [m.to f, m.tn f]) && true)))))) = true
  rw [h1, h2, h3]
  rfl
end GM
theorem mdl_rd {m : Mdl} {M : Mem} : rd M m.pv = .dic [(.str "nodes", .lst (m.nodes.map .str)), (.str "exits", .lst (m.exits.map .str)), (.str "flows", m.flv)] := rfl
theorem mdl_nodes {a b c : PV} : getK (.str "nodes") [(.str "nodes", a), (.str "exits", b), (.str "flows", c)] = some a := rfl
theorem mdl_exits {a b c : PV} : getK (.str "exits") [(.str "nodes", a), (.str "exits", b), (.str "flows", c)] = some b := rfl
theorem mdl_flows {a b c : PV} : getK (.str "flows") [(.str "nodes", a), (.str "exits", b), (.str "flows", c)] = some c := rfl
theorem nodup_len : ∀ {a b : List Str}, a.Nodup → (∀ x ∈ a, x ∈ b) → a.length ≤ b.length
  | [], _, _, _ => Nat.zero_le _
  | x :: a, b, hn, h => by
    obtain ⟨h1, h2⟩ := List.nodup_cons.mp hn
    have hx := h x List.mem_cons_self
    have := nodup_len (b := b.erase x) h2 fun y hy => (List.mem_erase_of_ne (show y ≠ x from fun e => h1 (by rw [← e]; exact hy))).mpr (h y (List.mem_cons_of_mem _ hy))
    rw [List.length_erase_of_mem hx] at this
    have := List.length_pos_of_mem hx
    rw [List.length_cons]
    omega
theorem Good.short {ss : List Str} (h : Good ss) : ∀ s ∈ ss, s.length ≤ 1000 := fun s hs => by have := nm_len (h s hs).1; omega
theorem strs_lt {n : Nat} {ss : List Str} : PV.lts n (ss.map .str) = true := lts_of fun x hx => by
  obtain ⟨s, _, rfl⟩ := List.mem_map.mp hx
  rfl
theorem rep_strs {k : Int} {ss : List Str} : repP k (ss.map .str) = ((List.replicate k.toNat ss).flatten).map .str := by
  unfold repP
  rw [List.map_flatten, List.map_replicate]
theorem mem_rep {k : Int} {ss : List Str} {s : Str} (h : s ∈ (List.replicate k.toNat ss).flatten) : s ∈ ss := by
  obtain ⟨l, hl, hs⟩ := List.mem_flatten.mp h
  rw [(List.mem_replicate.mp hl).2] at hs
  exact hs
theorem cut_mid {α : Type} (xs : List α) (a b : Nat) (h : b ≤ xs.length) (hab : a ≤ b) : cut xs (some (a : Int)) (some (b : Int)) = (xs.drop a).take (b - a) := by
  unfold cut
  rw [HT.sIx_nat, HT.sIx_nat, Nat.min_eq_left h, Nat.min_eq_left (Nat.le_trans hab h)]
/-- one more key -/
theorem dicF_put {ks : List Str} {f f' : Str → PV} {s : Str} {v : PV} (hs : s ∉ ks) (h : ∀ x ∈ ks, f' x = f x) (hv : f' s = v) : putKV (.str s) v (dicF ks f) = dicF (ks ++ [s]) f' := by
  rw [put_new fun p hp => by
    obtain ⟨u, hu, rfl⟩ := List.mem_map.mp hp
    exact ⟨u, rfl, fun e => hs (e ▸ hu)⟩]
  unfold dicF
  rw [List.map_append]
  congr 1
  · exact List.map_congr_left fun x hx => by rw [h x hx]
  · show [(PV.str s, v)] = [(PV.str s, f' s)]
    rw [hv]
end
end WT
set_option maxRecDepth 100000
set_option autoImplicit false
namespace LW
open PySem (Str CmpOp Operator)
open WT
/-! BadName.__init__: 0 self 1 name -/
def b0 : List CS := []
def f0 : FDef := ⟨2, 2, b0⟩
/-! BadTable.__init__: 0 self 1 node -/
def b1 : List CS := []
def f1 : FDef := ⟨2, 2, b1⟩
/-! BadNode.__init__: 0 self 1 node -/
def b2 : List CS := []
def f2 : FDef := ⟨2, 2, b2⟩
/-! is_name: 0 value 1 sign -/
def b3 : List CS := [(.ife (.or (.not (.isi (.loc 0) [(.ty "str")] false)) (.not (.chn .LtE .LtE (.lit (.int 1)) (.bfn .len false [(.loc 0)]) (.glo (.int 6))))) [(.ret (.lit (.bl false)))] []), (.ret (.cmp .Eq (.lc false [1] (.loc 1) (.nm 1) (.of (.loc 0)) [(.cmp .NotIn (.loc 1) (.glo (.str "abcdefghijklmnopqrstuvwxyz")))]) (.lst false [])))]
def f3 : FDef := ⟨1, 2, b3⟩
/-! Network.__init__: 0 self 1 nodes 2 exits 3 seen 4 name -/
def b4_1 : List CS := [(.ife (.or (.not (.call 3 [(.loc 4)])) (.cmp .In (.loc 4) (.loc 3))) [(.rais 1 [(.loc 4)])] []), (.expr (.bme (.loc 3) .append false [(.loc 4)]))]
def b4 : List CS := [(.ife (.or (.not (.isi (.loc 1) [(.ty "list"), (.ty "tuple")] true)) (.not (.isi (.loc 2) [(.ty "list"), (.ty "tuple")] true))) [(.rais 2 [(.lit (.str "not two lists"))])] []), (.asg (.nm 3) (.lst true [])), (.for_ (.nm 4) (.of (.bin .Add false (.bfn .listOf false [(.loc 1)]) (.bfn .listOf false [(.loc 2)]))) b4_1), (.ife (.or (.not (.chn .LtE .LtE (.lit (.int 1)) (.bfn .len false [(.loc 1)]) (.glo (.int 8)))) (.not (.chn .LtE .LtE (.lit (.int 1)) (.bfn .len false [(.loc 2)]) (.glo (.int 3))))) [(.rais 2 [(.lit (.str "too few or too many names"))])] []), (.setf (.loc 0) 1 (.bfn .tupleOf false [(.loc 1)])), (.setf (.loc 0) 2 (.bfn .tupleOf false [(.loc 2)]))]
def f4 : FDef := ⟨3, 5, b4⟩
/-! Network.nodes: 0 self -/
def b5 : List CS := [(.ret (.fld (.loc 0) 1))]
def f5 : FDef := ⟨1, 1, b5⟩
/-! Network.exits: 0 self -/
def b6 : List CS := [(.ret (.fld (.loc 0) 2))]
def f6 : FDef := ⟨1, 1, b6⟩
/-! Network.__eq__: 0 self 1 other -/
def b7 : List CS := [(.ife (.not (.isi (.loc 1) [(.cls 5)] false)) [(.ret (.lit (.bl false)))] []), (.ret (.and (.cmp .Eq (.fld (.loc 0) 1) (.fld (.loc 1) 1)) (.cmp .Eq (.fld (.loc 0) 2) (.fld (.loc 1) 2))))]
def f7 : FDef := ⟨2, 2, b7⟩
/-! is_node: 0 network 1 value -/
def b8 : List CS := [(.ret (.and (.isi (.loc 1) [(.ty "str")] false) (.cmp .In (.loc 1) (.fld (.loc 0) 3))))]
def f8 : FDef := ⟨2, 2, b8⟩
/-! is_exit: 0 network 1 value -/
def b9 : List CS := [(.ret (.and (.isi (.loc 1) [(.ty "str")] false) (.cmp .In (.loc 1) (.fld (.loc 0) 4))))]
def f9 : FDef := ⟨2, 2, b9⟩
/-! is_hop: 0 network 1 value -/
def b10 : List CS := [(.ret (.or (.cmp .Is (.loc 1) (.lit .non)) (.or (.call 8 [(.loc 0), (.loc 1)]) (.call 9 [(.loc 0), (.loc 1)]))))]
def f10 : FDef := ⟨2, 2, b10⟩
/-! Table.__init__: 0 self 1 network 2 hops 3 node 4 key -/
def b11_1 : List CS := [(.ife (.or (.cmp .NotIn (.loc 3) (.loc 2)) (.not (.call 10 [(.loc 1), (.idx (.loc 2) (.loc 3))]))) [(.rais 3 [(.loc 3)])] [])]
def b11_2 : List CS := [(.ife (.not (.call 8 [(.loc 1), (.loc 4)])) [(.rais 3 [(.loc 4)])] [])]
def b11 : List CS := [(.ife (.not (.isi (.loc 2) [(.ty "dict")] false)) [(.rais 3 [(.lit .non)])] []), (.for_ (.nm 3) (.of (.fld (.loc 1) 3)) b11_1), (.for_ (.nm 4) (.of (.loc 2)) b11_2), (.setf (.loc 0) 6 (.loc 1)), (.setf (.loc 0) 7 (.dcm false [3] (.loc 3) (.idx (.loc 2) (.loc 3)) (.nm 3) (.of (.fld (.loc 1) 3))))]
def f11 : FDef := ⟨3, 5, b11⟩
/-! Table.network: 0 self -/
def b12 : List CS := [(.ret (.fld (.loc 0) 6))]
def f12 : FDef := ⟨1, 1, b12⟩
/-! Table.__getitem__: 0 self 1 node -/
def b13 : List CS := [(.ife (.not (.call 8 [(.fld (.loc 0) 6), (.loc 1)])) [(.rais 4 [(.loc 1)])] []), (.ret (.idx (.fld (.loc 0) 7) (.loc 1)))]
def f13 : FDef := ⟨2, 2, b13⟩
/-! Table.__iter__: 0 self -/
def b14 : List CS := [.no]
def f14 : FDef := ⟨1, 1, b14⟩
/-! Table.__xor__: 0 self 1 other 2 node -/
def b15 : List CS := [(.ife (.not (.isi (.loc 1) [(.cls 6)] false)) [.no] []), (.ret (.bfn .tupleOf false [(.lc false [2] (.loc 2) (.nm 2) (.of (.fld (.fld (.loc 0) 6) 3)) [(.cmp .NotEq (.idx (.fld (.loc 0) 7) (.loc 2)) (.idx (.fld (.loc 1) 7) (.loc 2)))])]))]
def f15 : FDef := ⟨2, 3, b15⟩
/-! Table.__eq__: 0 self 1 other -/
def b16 : List CS := [(.ife (.not (.isi (.loc 1) [(.cls 6)] false)) [(.ret (.lit (.bl false)))] []), (.ret (.and (.cmp .Eq (.fld (.loc 0) 6) (.fld (.loc 1) 6)) (.cmp .Eq (.fld (.loc 0) 7) (.fld (.loc 1) 7))))]
def f16 : FDef := ⟨2, 2, b16⟩
/-! _law_begin: 0 _law_cell 1 _law_turn -/
def b17 : List CS := [(.ret (.lst true [(.bfn .maxOf false [(.lit (.int 0)), (.bin .Sub false (.loc 0) (.bin .Pow false (.lit (.int 10)) (.lit (.int 18))))]), (.bin .Add false (.loc 0) (.bin .Mult false (.lit (.int 977)) (.loc 1))), (.lit (.int 0))]))]
def f17 : FDef := ⟨2, 2, b17⟩
/-! _law_draw: 0 _law_state 1 _law_size 2 _law_found -/
def b18 : List CS := [(.ife (.cmp .Gt (.idx (.loc 0) (.lit (.int 0))) (.lit (.int 0))) [(.asg (.nm 2) (.bin .Mod false (.bfn .intOf false [(.idx (.loc 0) (.lit (.int 0)))]) (.loc 1))), (.seti (.loc 0) (.lit (.int 0)) (.bin .FloorDiv false (.idx (.loc 0) (.lit (.int 0))) (.loc 1))), (.ret (.loc 2))] []), (.seti (.loc 0) (.lit (.int 2)) (.bin .Add false (.idx (.loc 0) (.lit (.int 2))) (.lit (.int 1)))), (.asg (.nm 2) (.bin .Add false (.bin .Mod false (.bfn .intOf false [(.idx (.loc 0) (.lit (.int 1)))]) (.lit (.int 2147483629))) (.bin .Mult false (.lit (.int 104729)) (.idx (.loc 0) (.lit (.int 2)))))), (.asg (.nm 2) (.bin .Mult false (.loc 2) (.bin .Add false (.bin .Add false (.bin .Mod false (.bfn .intOf false [(.idx (.loc 0) (.lit (.int 1)))]) (.lit (.int 2147483587))) (.bin .Mult false (.bin .Mult false (.lit (.int 7919)) (.idx (.loc 0) (.lit (.int 2)))) (.idx (.loc 0) (.lit (.int 2))))) (.lit (.int 11))))), (.ret (.bin .Mod false (.bfn .intOf false [(.bin .FloorDiv false (.bin .Mod false (.bfn .intOf false [(.bin .Pow false (.loc 2) (.lit (.int 3)))]) (.lit (.int 2147483647))) (.lit (.int 11)))]) (.loc 1)))]
def f18 : FDef := ⟨2, 3, b18⟩
/-! _law_pick: 0 _law_state 1 _law_some -/
def b19 : List CS := [(.ret (.idx (.loc 1) (.call 18 [(.loc 0), (.bfn .len false [(.loc 1)])])))]
def f19 : FDef := ⟨2, 2, b19⟩
/-! _law_names: 0 _law_state 1 _law_many 2 _law_signs 3 _law_first 4 _law_found 5 _law_at 6 _law_name 7 _law_sign -/
def b20_1 : List CS := [(.asg (.nm 6) (.bme (.lit (.str "")) .join false [(.lc false [7] (.call 19 [(.loc 0), (.loc 2)]) (.nm 7) (.rng1 (.call 18 [(.loc 0), (.lit (.int 6))])) [])])), (.expr (.bme (.loc 4) .append false [(.bin .Add false (.loc 6) (.idx (.loc 2) (.bin .Mod false (.bfn .intOf false [(.bin .Add false (.loc 3) (.bin .Mult false (.lit (.int 7)) (.loc 5)))]) (.lit (.int 26)))))]))]
def b20 : List CS := [(.asg (.tup [(.nm 2), (.nm 3)]) (.tup [(.lit (.str "qjxzetaoinshrdlcumwfgypbvk")), (.call 18 [(.loc 0), (.lit (.int 26))])])), (.asg (.nm 4) (.lst true [])), (.for_ (.nm 5) (.rng1 (.loc 1)) b20_1), (.gh 4 (.ret (.loc 4)))]
def f20 : FDef := ⟨2, 8, b20⟩
/-! _law_mixed: 0 _law_state 1 _law_some 2 _law_left 3 _law_found 4 _law_at -/
def b21_1 : List CS := [(.asg (.nm 4) (.call 18 [(.loc 0), (.bfn .len false [(.loc 2)])])), (.expr (.bme (.loc 3) .append false [(.idx (.loc 2) (.loc 4))])), (.asg (.nm 2) (.bin .Add false (.slc false (.loc 2) (.lit .non) (.loc 4)) (.slc false (.loc 2) (.bin .Add false (.loc 4) (.lit (.int 1))) (.lit .non))))]
def b21 : List CS := [(.asg (.tup [.nm 2, .nm 3]) (.tup [(.bfn .listOf false [(.loc 1)]), (.lst true [])])), (.whl (.cmp .NotEq (.loc 2) (.lst false [])) b21_1), (.gh 3 (.ret (.loc 3)))]
def f21 : FDef := ⟨2, 5, b21⟩
/-! _law_hop: 0 _law_state 1 _law_later 2 _law_every 3 _law_way -/
def b22 : List CS := [(.asg (.nm 3) (.call 18 [(.loc 0), (.lit (.int 9))])), (.ife (.cmp .Eq (.loc 3) (.lit (.int 0))) [(.ret (.lit .non))] []), (.ret (.call 19 [(.loc 0), (.ife (.cmp .Eq (.loc 3) (.lit (.int 1))) (.loc 2) (.loc 1))]))]
def f22 : FDef := ⟨3, 4, b22⟩
/-! _law_flow: 0 _law_state 1 _law_nodes 2 _law_exits 3 _law_first 4 _law_second 5 _law_old 6 _law_new 7 _law_at 8 _law_node 9 _law_hop_here -/
def b23_1 : List CS := [(.seti (.loc 5) (.loc 8) (.call 22 [(.loc 0), (.bin .Add false (.bin .Mult false (.slc false (.loc 3) (.bin .Add false (.loc 7) (.lit (.int 1))) (.lit .non)) (.lit (.int 3))) (.loc 2)), (.bin .Add false (.loc 1) (.loc 2))]))]
def b23_2 : List CS := [(.asg (.nm 9) (.call 22 [(.loc 0), (.bin .Add false (.bin .Mult false (.slc false (.loc 4) (.bin .Add false (.loc 7) (.lit (.int 1))) (.lit .non)) (.lit (.int 3))) (.loc 2)), (.bin .Add false (.loc 1) (.loc 2))])), (.seti (.loc 6) (.loc 8) (.ife (.cmp .Gt (.call 18 [(.loc 0), (.lit (.int 4))]) (.lit (.int 0))) (.loc 9) (.idx (.loc 5) (.loc 8))))]
def b23 : List CS := [(.asg (.tup [.nm 3, .nm 4]) (.tup [(.call 21 [(.loc 0), (.loc 1)]), (.call 21 [(.loc 0), (.loc 1)])])), (.asg (.tup [.nm 5, .nm 6]) (.tup [(.dic true [] []), (.dic true [] [])])), (.for_ (.tup [(.nm 7), (.nm 8)]) (.enm2 (.loc 3)) b23_1), (.gh 5 (.for_ (.tup [(.nm 7), (.nm 8)]) (.enm2 (.loc 4)) b23_2)), (.gh 6 (.ret (.tup [(.loc 5), (.loc 6)])))]
def f23 : FDef := ⟨3, 10, b23⟩
/-! _law_model: 0 _law_state 1 _law_most 2 _law_flows 3 _law_many 4 _law_ways 5 _law_lots 6 _law_names_here 7 _law_nodes 8 _law_exits 9 _law_found 10 _law_flow_here -/
def b24_1 : List CS := [(.seti (.loc 9) (.loc 10) (.call 23 [(.loc 0), (.loc 7), (.loc 8)]))]
def b24 : List CS := [(.asg (.tup [.nm 3, .nm 4, .nm 5]) (.tup [(.bin .Add false (.lit (.int 1)) (.call 18 [(.loc 0), (.loc 1)])), (.bin .Add false (.lit (.int 1)) (.call 18 [(.loc 0), (.lit (.int 3))])), (.bin .Add false (.lit (.int 1)) (.call 18 [(.loc 0), (.loc 2)]))])), (.asg (.nm 6) (.call 20 [(.loc 0), (.bin .Add false (.bin .Add false (.loc 3) (.loc 4)) (.loc 5))])), (.asg (.tup [.nm 7, .nm 8]) (.tup [(.slc false (.loc 6) (.lit .non) (.loc 3)), (.slc false (.loc 6) (.loc 3) (.bin .Add false (.loc 3) (.loc 4)))])), (.asg (.nm 9) (.dic true [] [])), (.for_ (.nm 10) (.of (.slc false (.loc 6) (.bin .Add false (.loc 3) (.loc 4)) (.lit .non))) b24_1), (.gh 9 (.ret (.dic false [(.lit (.str "nodes")), (.loc 7), (.lit (.str "exits")), (.loc 8), (.lit (.str "flows")), (.loc 9)] [])))]
def f24 : FDef := ⟨3, 11, b24⟩
/-! _law_right: 0 _law_network 1 _law_nodes 2 _law_one 3 _law_other 4 _law_first 5 _law_second 6 _law_due 7 _law_told 8 _law_node -/
def b25_1 : List CS := [(.ife (.or (.not (.isi (.loc 7) [(.ty "tuple")] false)) (.cmp .NotEq (.loc 7) (.loc 6))) [(.ret (.lit (.bl false)))] [])]
def b25 : List CS := [(.asg (.tup [(.nm 4), (.nm 5)]) (.tup [(.call 29 [(.loc 0), (.loc 2)]), (.call 29 [(.loc 0), (.loc 3)])])), (.asg (.nm 6) (.bfn .tupleOf false [(.lc false [8] (.loc 8) (.nm 8) (.of (.loc 1)) [(.cmp .NotEq (.idx (.loc 2) (.loc 8)) (.idx (.loc 3) (.loc 8)))])])), (.for_ (.nm 7) (.of (.tup [(.opO 8 (.loc 4) (.loc 5)), (.opO 8 (.loc 5) (.loc 4))])) b25_1), (.ife (.or (.cmp .NotEq (.cmp .Eq (.loc 4) (.loc 5)) (.cmp .Eq (.loc 6) (.tup []))) (.cmp .NotEq (.cmp .NotEq (.loc 4) (.loc 5)) (.cmp .NotEq (.loc 6) (.tup [])))) [(.ret (.lit (.bl false)))] []), (.ret (.and (.cmp .Eq (.lc false [8] (.opI 9 (.loc 4) (.loc 8)) (.nm 8) (.of (.loc 1)) []) (.lc false [8] (.idx (.loc 2) (.loc 8)) (.nm 8) (.of (.loc 1)) [])) (.cmp .Eq (.opO 8 (.loc 4) (.loc 4)) (.tup []))))]
def f25 : FDef := ⟨4, 9, b25⟩
/-! _law_far: 0 _law_nodes 1 _law_outs 2 _law_fresh 3 _law_name 4 _law_sign -/
def b26 : List CS := [(.asg (.nm 2) (.idx (.lc false [3] (.loc 3) (.nm 3) (.of (.lc false [4] (.bin .Add false (.lit (.str "qz")) (.loc 4)) (.nm 4) (.of (.lit (.str "abcdefghijkl"))) [])) [(.cmp .NotIn (.loc 3) (.bin .Add false (.loc 0) (.loc 1)))]) (.lit (.int 0)))), (.ret (.ife (.cmp .Lt (.bfn .len false [(.loc 1)]) (.lit (.int 3))) (.call 28 [(.loc 0), (.bin .Add false (.loc 1) (.lst false [(.loc 2)]))]) (.call 28 [(.loc 0), (.rev false (.loc 1))])))]
def f26 : FDef := ⟨2, 5, b26⟩
/-! law: 0 _law_script 1 _law_turn 2 _law_cell 3 _law_state 4 _law_k 5 _law_model_here 6 _law_network 7 _law_nodes 8 _law_flow_here 9 _law_old 10 _law_new 11 _law_near 12 _law_node 13 _law_one -/
def b27_1 : List CS := [(.asg (.tup [(.nm 9), (.nm 10)]) (.idx (.idx (.loc 5) (.lit (.str "flows"))) (.loc 8))), (.asg (.tup [(.nm 11), (.nm 12)]) (.tup [(.bfn .dictNew true [(.loc 9)]), (.call 19 [(.loc 3), (.loc 7)])])), (.seti (.loc 11) (.loc 12) (.call 19 [(.loc 3), (.lc false [13] (.loc 13) (.nm 13) (.of (.bin .Add false (.bin .Add false (.loc 7) (.idx (.loc 5) (.lit (.str "exits")))) (.lst false [(.lit .non)]))) [(.cmp .NotEq (.loc 13) (.idx (.loc 9) (.loc 12)))])])), (.gh 11 (.ife (.or (.not (.call 25 [(.loc 6), (.loc 7), (.loc 9), (.loc 10)])) (.not (.call 25 [(.loc 6), (.loc 7), (.loc 9), (.loc 11)]))) [(.ret (.lit (.bl false)))] [])), (.ife (.cmp .NotEq (.opO 8 (.call 29 [(.loc 6), (.loc 9)]) (.call 29 [(.loc 6), (.loc 11)])) (.tup [(.loc 12)])) [(.ret (.lit (.bl false)))] []), (.ife (.cmp .Eq (.call 29 [(.call 26 [(.loc 7), (.idx (.loc 5) (.lit (.str "exits")))]), (.loc 9)]) (.call 29 [(.loc 6), (.loc 9)])) [(.ret (.lit (.bl false)))] [])]
def b27_2 : List CS := [(.asg (.nm 5) (.call 24 [(.loc 3), (.lit (.int 8)), (.lit (.int 2))])), (.asg (.tup [.nm 6, .nm 7]) (.tup [(.call 28 [(.idx (.loc 5) (.lit (.str "nodes"))), (.idx (.loc 5) (.lit (.str "exits")))]), (.idx (.loc 5) (.lit (.str "nodes")))])), (.for_ (.nm 8) (.of (.idx (.loc 5) (.lit (.str "flows")))) b27_1)]
def b27_3 : List CS := [(.asg (.nm 3) (.call 17 [(.loc 2), (.loc 1)])), (.for_ (.nm 4) (.rng1 (.lit (.int 3))) b27_2)]
def b27 : List CS := [(.for_ (.tup [(.nm 1), (.nm 2)]) (.enm2 (.slc false (.or (.loc 0) (.lst false [(.lit (.int 5))])) (.lit .non) (.lit (.int 10)))) b27_3), (.ret (.lit (.bl true)))]
def f27 : FDef := ⟨1, 14, b27⟩
def G : Glo where
  fns := (([.no, .no, .no, .fn f3, .fn f4, .fn f5, .fn f6, .fn f7, .fn f8, .fn f9, .fn f10, .fn f11, .fn f12, .fn f13, .fn f14, .fn f15, .fn f16, .fn f17, .fn f18, .fn f19, .fn f20, .fn f21, .fn f22, .fn f23, .fn f24] : List Fn) ++ ([.fn f25, .fn f26, .fn f27, .mk 5 4 true, .mk 6 11 true] : List Fn))
  meths := [((6, 9), 13), ((6, 8), 15)]
  props := [((5, 3), 5), ((5, 4), 6), ((6, 10), 12)]
  excs := [(0, none), (1, some [0]), (2, none), (3, some [5]), (4, some [5])]
  subs := [(0, [0]), (1, [1, 0]), (2, [2, 0]), (3, [3, 0]), (4, [4, 0]), (5, [5]), (6, [6])]
  eqs := [(5, 7), (6, 16)]
  flds := [(5, 1), (5, 2), (6, 6), (6, 7)]
  xflds := [(1, 0), (3, 5), (4, 5)]
end LW
set_option maxRecDepth 100000
set_option autoImplicit false
/-! Drawn: mixed lists, next hops, flows, models. -/
namespace LW
open PySem (Str CmpOp Operator PyData)
open WT
theorem hfd : G.fns[18]? = some (.fn ⟨2, 3, drawB⟩) := rfl
theorem hfp : G.fns[19]? = some (.fn ⟨2, 2, pickB 18⟩) := rfl
theorem hfn : G.fns[20]? = some (.fn ⟨2, 8, namesB 18 19⟩) := rfl
section
variable {n i : Nat} {M : Mem} {k : Int} {ss : List Str} {Q E : PV → Mem → Prop}
theorem take_one {α : Type} {l : List α} {j : Nat} {x : α} (h : l[j]? = some x) : l.take (j + 1) = l.take j ++ [x] := by
  rw [List.take_add_one, h]
  rfl
theorem split_at {α : Type} {l : List α} {j : Nat} {x : α} (h : l[j]? = some x) : l = l.take j ++ x :: l.drop (j + 1) := by
  obtain ⟨hl, rfl⟩ := List.getElem?_eq_some_iff.mp h
  rw [← List.drop_eq_getElem_cons hl, List.take_append_drop]
theorem fresh1 {α : Type} {l : List α} {j : Nat} {x : α} (hn : l.Nodup) (h : l[j]? = some x) : x ∉ l.take j := by
  rw [split_at h] at hn
  exact fun hx => (List.nodup_append.mp hn).2.2 x hx x List.mem_cons_self rfl
/-! ### mixed -/
/-- m items are left -/
def MxI (i : Nat) (k : Int) (s0 s1 : PV) (M : Mem) (ss : List Str) (m : Nat) (ε : Env) (N : Mem) : Prop := ∃ (left found : List Str) (p4 : Option PV), left.length = m ∧ (left ++ found).Perm ss ∧ ε = [some s0, some s1, some (.lst (left.map .str)), some (.ref M.length), p4] ∧ Aft i (k + ((ss.length - m : Nat) : Int)) M N ∧ N[M.length]? = some (.lst (found.map .str))
def MxP (i : Nat) (k' : Int) (p1 : Option PV) (M : Mem) (L : Nat) (left found : List Str) (ε' : Env) (N' : Mem) : Prop := ∃ (left' found' : List Str) (p4' : Option PV), left'.length + 1 = left.length ∧ (left' ++ found').Perm (left ++ found) ∧ ε' = [some (.ref i), p1, some (.lst (left'.map .str)), some (.ref L), p4'] ∧ Aft i (k' + 1) M N' ∧ N'[L]? = some (.lst (found'.map .str))
theorem mixBody {L : Nat} {left found : List Str} {p1 p4 : Option PV} {N : Mem} {k' : Int} (hi : i < M.length) (hL : M.length ≤ L) (hA : Aft i k' M N) (hk : k' < 2 ^ 39) (hN : N[L]? = some (.lst (found.map .str))) (h0 : 0 < left.length) (hl : left.length ≤ 100) (hl2 : found.length ≤ 100) : Wp (exs ⟨WT.call G 100000 (n + 1), 100000, G⟩ b21_1 [some (.ref i), p1, some (.lst (left.map .str)), some (.ref L), p4] N) (Nx (MxP i k' p1 M L left found)) := by
  unfold b21_1
  simp
  refine rp_draw hfd hA.ds hk (by omega) (by omega) fun d N1 hd hA1 hl1 => ?_
  have hd' : d < left.length := by omega
  obtain ⟨s, hs⟩ : ∃ s, left[d]? = some s := ⟨_, List.getElem?_eq_getElem hd'⟩
  have hLi : L ≠ i := by omega
  have hN1 := hA1.at hN hLi
  simp
  rw [kbme_list (fun _ => rfl) hN1]
  simp
  refine Rp.of (i_lst (k := d) (v := .str s) (by rw [List.getElem?_map, hs]; rfl)) ?_
  simp
  refine rp_append hN1 (by rw [List.length_map]; omega) ?_
  simp
  have e1 : cut (left.map PV.str) none (some (d : Int)) = (left.take d).map .str := by rw [cut_take, List.map_take]
  have e2 : cut (left.map PV.str) (some ((d : Int) + 1)) none = (left.drop (d + 1)).map .str := by
    rw [show ((d : Int) + 1) = ((d + 1 : Nat) : Int) by omega, cut_drop, List.map_drop]
  rw [e1, e2, List.length_map, List.length_map, ← List.map_append]
  have l1 : (left.take d).length = d := by rw [List.length_take]; omega
  have l2 : (left.drop (d + 1)).length = left.length - (d + 1) := List.length_drop
  refine ⟨by omega, left.take d ++ left.drop (d + 1), found ++ [s], _, by rw [List.length_append]; omega, out_perm hs, rfl, (hA.trans hA1).young hi hL, ?_⟩
  rw [List.getElem?_set_self (List.getElem?_eq_some_iff.mp hN1).1, List.map_append]
  rfl
def MxR (ss : List Str) (v : PV) : Prop := ∃ ys : List Str, v = .lst (ys.map .str) ∧ ys.Perm ss
theorem mixedRp (hD : DS M i k) (hk : k < 2 ^ 38) (hg : Good ss) (hl : ss.length ≤ 60) : Rp (WT.call G 100000 (n + 2) 21 [.ref i, .lst (ss.map .str)] M) (fun v N => MxR ss v ∧ Aft i (k + ss.length) M N ∧ N.length = M.length) nev := by
  refine rp_dr (d := f21) rfl rfl hD ?_
  show Wp (exs ⟨WT.call G 100000 (n + 1), 100000, G⟩ b21 [some (.ref i), some (.lst (ss.map .str)), none, none, none] M) _
  unfold b21
  have hi := hD.lt
  generalize hs0 : PV.ref i = s0
  simp
  refine wp_whl (MxI i k s0 (.lst (ss.map .str)) M ss) (n := ss.length) (by show _ < 100000; omega) ⟨ss, [], none, rfl, by simp, rfl, ?_, ?_⟩ ?_
  · refine (Aft.refl (hD.mono ?_)).push
    omega
  · simp
  · rintro m ε N ⟨left, found, p4, hm, hp, rfl, hA, hN⟩
    have hgl : Good left := fun s hs => hg s (hp.mem_iff.mp (List.mem_append.mpr (.inl hs)))
    have hpl := hp.length_eq
    rw [List.length_append] at hpl
    simp
    rw [rp_neNilS fun s hs => (hgl s hs).2]
    cases left with
    | nil =>
      simp
      refine wp_ghL rfl hN ?_
      simp
      exact ⟨strs_lt, (hA.mono (by omega)).young hi (Nat.le_refl _), found, rfl, by simpa using hp⟩
    | cons a l =>
      simp
      rw [← hs0]
      rw [List.length_cons] at hpl hm
      refine (mixBody (left := a :: l) (found := found) (k' := k + ((ss.length - m : Nat) : Int)) hi (Nat.le_refl _) hA (by omega) hN (by simp) (by rw [List.length_cons]; omega) (by omega)).mono fun o ho => ?_
      cases o with
      | nx ε2 N2 =>
        obtain ⟨left', found', p4', q1, q2, rfl, q4, q5⟩ := ho
        rw [List.length_cons] at q1
        refine ⟨left'.length, by omega, left', found', p4', rfl, q2.trans hp, rfl, q4.mono ?_, q5⟩
        omega
      | _ => exact ho.elim
/-! ### next hops -/
theorem hopRp {A B : List Str} {R : Option Str → Prop} (hD : DS M i k) (hk : k < 2 ^ 38) (hA : A ≠ []) (hB : B ≠ []) (hA1 : A.length ≤ 1000) (hB1 : B.length ≤ 1000) (h0 : R none) (h : ∀ s, s ∈ A ∨ s ∈ B → R (some s)) :
    Rp (WT.call G 100000 (n + 3) 22 [.ref i, .lst (A.map .str), .lst (B.map .str)] M) (fun v N => (∃ x, v = hopV x ∧ R x) ∧ Aft i (k + 2) M N ∧ N.length = M.length) nev := by
  refine rp_dr (d := f22) rfl rfl hD ?_
  show Wp (exs ⟨WT.call G 100000 (n + 2), 100000, G⟩ b22 [some (.ref i), some (.lst (A.map .str)), some (.lst (B.map .str)), none] M) _
  unfold b22
  simp
  refine rp_draw hfd hD (by omega) (by omega) (by omega) fun d N1 hd hN1 hl1 => ?_
  simp
  generalize hb : ((d : Int) == 0) = b
  cases b with
  | true =>
    simp
    exact ⟨rfl, hN1.mono (by omega), none, rfl, h0⟩
  | false =>
    simp
    have pk : ∀ C : List Str, C ≠ [] → C.length ≤ 1000 → (∀ s ∈ C, R (some s)) → Rp (WT.call G 100000 (n + 2) 19 [.ref i, .lst (C.map .str)] N1) (Kret (Dr i (k + 2) M fun v => ∃ x, v = hopV x ∧ R x)) (Ker [some (.ref i), some (.lst (A.map .str)), some (.lst (B.map .str)), some (.int (d : Int))] (Dr i (k + 2) M fun v => ∃ x, v = hopV x ∧ R x)) := fun C hC hC1 hR => by
      have := List.length_pos_iff.mpr hC
      refine rp_pick (n := n) hfd hfp hN1.ds (by omega) (by rw [List.length_map]; omega) (by rw [List.length_map]; omega) strs_lt fun v N2 hv hN2 hl2 => ?_
      obtain ⟨s, hs, rfl⟩ := List.mem_map.mp hv
      simp
      exact ⟨rfl, (hN1.trans hN2).mono (by omega), some s, rfl, hR s hs⟩
    generalize hc : ((d : Int) == 1) = c
    cases c with
    | true =>
      simp
      exact pk B hB hB1 fun s hs => h s (.inr hs)
    | false =>
      simp
      exact pk A hA hA1 fun s hs => h s (.inl hs)
/-! ### flows -/
/-- hops are laid for j nodes -/
def FlI (i : Nat) (k : Int) (M : Mem) (L : Nat) (nodes exits ks : List Str) (pre : List PV) (x6 : PV) (L6 : Nat) (d6 : List (PV × PV)) (j : Nat) (ε : Env) (N : Mem) : Prop := ∃ (h : Str → Option Str) (p7 p8 p9 : Option PV), ε = pre.map some ++ [some (.ref L), some x6, p7, p8, p9] ∧ Aft i (k + 2 * (j : Int)) M N ∧ N[L]? = some (.dic (dicF (ks.take j) fun s => hopV (h s))) ∧ N[L6]? = some (.dic d6) ∧ ∀ s ∈ ks.take j, hopOk nodes exits (h s)
def FlJ (i : Nat) (k : Int) (M : Mem) (L : Nat) (nodes exits ks : List Str) (pre : List PV) (j : Nat) (ε : Env) (N : Mem) : Prop := ∃ (h : Str → Option Str) (p7 p8 p9 : Option PV), ε = pre.map some ++ [some (.ref L), p7, p8, p9] ∧ Aft i (k + 3 * (j : Int)) M N ∧ N[L]? = some (.dic (dicF (ks.take j) fun s => hopV (h s))) ∧ ∀ s ∈ ks.take j, hopOk nodes exits (h s)
theorem hop_upd {ks : List Str} {h : Str → Option Str} {s : Str} {x : Option Str} (hs : s ∉ ks) : putKV (.str s) (hopV x) (dicF ks fun s => hopV (h s)) = dicF (ks ++ [s]) fun t => hopV ((fun t => if t = s then x else h t) t) :=
  dicF_put hs (fun t ht => by
    show hopV (if t = s then x else h t) = _
    rw [if_neg (show ¬ t = s from fun e => hs (e ▸ ht))]) (by
    show hopV (if s = s then x else h s) = _
    rw [if_pos rfl])
theorem hop_all {nodes exits ks : List Str} {h : Str → Option Str} {s : Str} {x : Option Str} (hh : ∀ t ∈ ks, hopOk nodes exits (h t)) (hx : hopOk nodes exits x) : ∀ t ∈ ks ++ [s], hopOk nodes exits ((fun t => if t = s then x else h t) t) := fun t ht => by
  show hopOk nodes exits (if t = s then x else h t)
  by_cases e : t = s
  · rw [if_pos e]; exact hx
  · rw [if_neg e]
    rcases List.mem_append.mp ht with ht | ht
    · exact hh t ht
    · exact absurd (List.mem_singleton.mp ht) e
theorem dicF_len {ks : List Str} {f : Str → PV} : (dicF ks f).length = ks.length := by unfold dicF; rw [List.length_map]
def FlR (nodes exits : List Str) (v : PV) : Prop := ∃ x y h1 h2, v = .tup [x, y] ∧ TB nodes exits x h1 ∧ TB nodes exits y h2
theorem flowRp {nodes exits : List Str} (hD : DS M i k) (hk : k < 2 ^ 37) (hg : Good nodes) (hn : nodes.Nodup) (h1 : 1 ≤ nodes.length) (h8 : nodes.length ≤ 8) (he : 1 ≤ exits.length) (he3 : exits.length ≤ 3) :
    Rp (WT.call G 100000 (n + 4) 23 [.ref i, .lst (nodes.map .str), .lst (exits.map .str)] M) (fun v N => FlR nodes exits v ∧ Aft i (k + 100) M N ∧ N.length = M.length) nev := by
  refine rp_dr (d := f23) rfl rfl hD ?_
  show Wp (exs ⟨WT.call G 100000 (n + 3), 100000, G⟩ b23 [some (.ref i), some (.lst (nodes.map .str)), some (.lst (exits.map .str)), none, none, none, none, none, none, none] M) _
  unfold b23
  have hi := hD.lt
  generalize hQ : Dr i (k + 100) M (FlR nodes exits) = Q0
  simp
  refine Rp.use (mixedRp (n := n + 1) hD (by omega) hg (by omega)) ?_
  rintro v N ⟨⟨o1, rfl, p1⟩, hA, hl⟩
  simp
  refine Rp.use (mixedRp (n := n + 1) hA.ds (by omega) hg (by omega)) ?_
  rintro v N1 ⟨⟨o2, rfl, p2⟩, hA1, hl1⟩
  simp
  have hA2 := hA.trans hA1
  have hlN : N1.length = M.length := hl1.trans hl
  have n1 : o1.Nodup := p1.symm.nodup hn
  have n2 : o2.Nodup := p2.symm.nodup hn
  have l1 := p1.length_eq
  have l2 := p2.length_eq
  have hex : exits ≠ [] := fun e => by rw [e] at he; simp at he
  have hall : (nodes ++ exits).length ≤ 11 := by rw [List.length_append]; omega
  have hop : ∀ {A : List Str}, (∀ s ∈ A, s ∈ nodes) → ∀ s, s ∈ (List.replicate (3 : Int).toNat A).flatten ++ exits ∨ s ∈ nodes ++ exits → hopOk nodes exits (some s) := fun hA s hs t ht => by
    cases ht
    rcases hs with hs | hs
    · rcases List.mem_append.mp hs with hs | hs
      · exact .inl (hA _ (mem_rep hs))
      · exact .inr hs
    · exact List.mem_append.mp hs
  have cutN : ∀ (o : List Str) (j : Nat), cut (o.map PV.str) (some ((j : Int) + 1)) none = (o.drop (j + 1)).map .str := fun o j => by
    rw [show ((j : Int) + 1) = ((j + 1 : Nat) : Int) by omega, cut_drop, List.map_drop]
  refine wp_for (FlI i (k + nodes.length + nodes.length) M N1.length nodes exits o1 [.ref i, .lst (nodes.map .str), .lst (exits.map .str), .lst (o1.map .str), .lst (o2.map .str)] (.ref (N1.length + 1)) (N1.length + 1) []) ?_
  simp
  refine ⟨⟨fun _ => none, none, none, none, rfl, ?_, ?_, ?_, by simp⟩, ?_, ?_⟩
  · simpa using (hA2.push (K := [Cell.dic []])).push (K := [Cell.dic []])
  · simp [dicF]
  · simp
  · rintro j x ε N hj ⟨h, p7, p8, p9, rfl, hN, hc5, hc6, hh⟩
    obtain ⟨x, hx, rfl⟩ := enumFrom_get hj
    rw [List.getElem?_map] at hx
    obtain ⟨s, hs, rfl⟩ := Option.map_eq_some_iff.mp hx
    have hjl := (List.getElem?_eq_some_iff.mp hs).1
    rw [Int.zero_add]
    refine ⟨_, rfl, ?_⟩
    show Wp (exs _ b23_1 [some (.ref i), some (.lst (nodes.map .str)), some (.lst (exits.map .str)), some (.lst (o1.map .str)), some (.lst (o2.map .str)), some (.ref N1.length), some (.ref (N1.length + 1)), some (.int (j : Int)), some (.str s), p9] N) _
    unfold b23_1
    refine wp_setS ?_
    simp
    rw [cutN]
    refine ⟨by simp; omega, ?_⟩
    rw [rep_strs, ← List.map_append, ← List.map_append]
    refine ⟨by first | omega | (simp; omega), by first | omega | (simp; omega), ?_⟩
    refine Rp.use (hopRp (n := n) (R := hopOk nodes exits) hN.ds (by omega) (by simp [hex]) (by simp [hex]) (by simp; omega) (by omega) (fun s hs => by cases hs) (hop fun s hs => p1.mem_iff.mp (List.mem_of_mem_drop hs))) ?_
    rintro v N2 ⟨⟨y, rfl, hy⟩, hN2, hl2⟩
    have c5 := hN2.at hc5 (by omega)
    have c6 := hN2.at hc6 (by omega)
    have lt5 := (List.getElem?_eq_some_iff.mp c5).1
    refine ⟨_, c5, by rw [dicF_len, List.length_take]; omega, ?_⟩
    have hfr := fresh1 n1 hs
    rw [hop_upd hfr, ← take_one hs]
    refine ⟨_, _, _, _, rfl, ((hN.trans hN2).mono (by push_cast; omega)).young hi (by omega), by rw [List.getElem?_set_self lt5], by rw [List.getElem?_set_ne (by omega)]; exact c6, ?_⟩
    rw [take_one hs]
    exact hop_all hh hy
  · rintro ε N ⟨h, p7, p8, p9, rfl, hN, hc5, hc6, hh⟩
    rw [List.take_length] at hc5 hh
    refine wp_ghD (j := N1.length) rfl hc5 ?_
    have lt5 := (List.getElem?_eq_some_iff.mp hc5).1
    have hN0 := hN.young (c := Cell.dead) hi (show M.length ≤ N1.length by omega)
    have hc7 : (N.set N1.length Cell.dead)[N1.length + 1]? = some (.dic []) := by rw [List.getElem?_set_ne (by omega)]; exact hc6
    generalize N.set N1.length Cell.dead = N3 at hN0 hc7
    simp
    refine wp_for (FlJ i (k + nodes.length + nodes.length + 2 * nodes.length) M (N1.length + 1) nodes exits o2 [.ref i, .lst (nodes.map .str), .lst (exits.map .str), .lst (o1.map .str), .lst (o2.map .str), .dic (dicF o1 fun s => hopV (h s))]) ?_
    simp
    refine ⟨⟨fun _ => none, p7, p8, p9, rfl, ?_, ?_, by simp⟩, ?_, ?_⟩
    · refine hN0.mono ?_
      push_cast
      omega
    · simpa [dicF] using hc7
    · rintro j x ε N hj ⟨h2, p7, p8, p9, rfl, hN, hc6, hh2⟩
      obtain ⟨x, hx, rfl⟩ := enumFrom_get hj
      rw [List.getElem?_map] at hx
      obtain ⟨s, hs, rfl⟩ := Option.map_eq_some_iff.mp hx
      have hjl := (List.getElem?_eq_some_iff.mp hs).1
      have hs1 : s ∈ o1 := p1.mem_iff.mpr (p2.mem_iff.mp (List.mem_of_getElem? hs))
      rw [Int.zero_add]
      refine ⟨_, rfl, ?_⟩
      show Wp (exs _ b23_2 [some (.ref i), some (.lst (nodes.map .str)), some (.lst (exits.map .str)), some (.lst (o1.map .str)), some (.lst (o2.map .str)), some (.dic (dicF o1 fun s => hopV (h s))), some (.ref (N1.length + 1)), some (.int (j : Int)), some (.str s), p9] N) _
      unfold b23_2
      simp
      rw [cutN]
      refine ⟨by simp; omega, ?_⟩
      rw [rep_strs, ← List.map_append, ← List.map_append]
      refine ⟨by first | omega | (simp; omega), by first | omega | (simp; omega), ?_⟩
      refine Rp.use (hopRp (n := n) (R := hopOk nodes exits) hN.ds (by omega) (by simp [hex]) (by simp [hex]) (by simp; omega) (by omega) (fun s hs => by cases hs) (hop fun s hs => p2.mem_iff.mp (List.mem_of_mem_drop hs))) ?_
      rintro v N2 ⟨⟨y0, rfl, hy⟩, hN2, hl2⟩
      refine wp_setS ?_
      simp
      refine rp_draw hfd hN2.ds (by omega) (by omega) (by omega) fun d N4 hd hN4 hl4 => ?_
      simp
      have c6 := hN4.at (hN2.at hc6 (by omega)) (by omega)
      have lt6 := (List.getElem?_eq_some_iff.mp c6).1
      have hfr := fresh1 n2 hs
      have fin : ∀ y, hopOk nodes exits y → ∃ x, N4[N1.length + 1]? = some (Cell.dic x) ∧ x.length < 16777216 ∧ FlJ i (k + nodes.length + nodes.length + 2 * nodes.length) M (N1.length + 1) nodes exits o2 [.ref i, .lst (nodes.map .str), .lst (exits.map .str), .lst (o1.map .str), .lst (o2.map .str), .dic (dicF o1 fun s => hopV (h s))] (j + 1) [some (.ref i), some (.lst (nodes.map .str)), some (.lst (exits.map .str)), some (.lst (o1.map .str)), some (.lst (o2.map .str)), some (.dic (dicF o1 fun s => hopV (h s))), some (.ref (N1.length + 1)), some (.int (j : Int)), some (.str s), some (hopV y0)] (N4.set (N1.length + 1) (.dic (putKV (.str s) (hopV y) x))) := fun y hy => by
        refine ⟨_, c6, by rw [dicF_len, List.length_take]; omega, ?_⟩
        rw [hop_upd hfr, ← take_one hs]
        refine ⟨_, _, _, _, rfl, (((hN.trans hN2).trans hN4).mono (by push_cast; omega)).young hi (by omega), by rw [List.getElem?_set_self lt6], ?_⟩
        rw [take_one hs]
        exact hop_all hh2 hy
      generalize hb : decide (0 < d) = b
      cases b with
      | true =>
        rw [kif_t]
        simp
        exact fin y0 hy
      | false =>
        rw [kif_f]
        simp
        rw [rp_ixD (v := hopV (h s)) rfl (by rw [getK_dicF, if_pos hs1])]
        exact fin (h s) (hh s hs1)
    · rintro ε N ⟨h2, p7, p8, p9, rfl, hN, hc6, hh2⟩
      rw [List.take_length] at hc6 hh2
      refine wp_ghD (j := N1.length + 1) rfl hc6 ?_
      simp
      rw [← hQ]
      have tb : ∀ {o : List Str} {h : Str → Option Str}, o.Perm nodes → (∀ s ∈ o, hopOk nodes exits (h s)) → TB nodes exits (.dic (dicF o fun s => hopV (h s))) h := fun p hh => ⟨_, p, rfl, fun s hs => hh s (p.mem_iff.mpr hs)⟩
      have t1 := tb p1 hh
      have t2 := tb p2 hh2
      rw [dr_rt]
      refine ⟨?_, (hN.mono (by push_cast; omega)).young hi (by omega), _, _, _, _, rfl, t1, t2⟩
      show (PV.lt M.length _ && (PV.lt M.length _ && true)) = true
      rw [t1.lt, t2.lt]
      rfl
/-! ### models -/
theorem choose_flows {nodes exits : List Str} {fl : List Str} {f : Str → PV} (h : ∀ s ∈ fl, FlR nodes exits (f s)) : ∃ (to tn : Str → PV) (old new : Str → Str → Option Str), (∀ s ∈ fl, f s = .tup [to s, tn s]) ∧ (∀ s ∈ fl, TB nodes exits (to s) (old s)) ∧ ∀ s ∈ fl, TB nodes exits (tn s) (new s) := by
  classical
  have h' : ∀ s, ∃ q : PV × PV × (Str → Option Str) × (Str → Option Str), s ∈ fl → f s = .tup [q.1, q.2.1] ∧ TB nodes exits q.1 q.2.2.1 ∧ TB nodes exits q.2.1 q.2.2.2 := fun s => by
    by_cases hs : s ∈ fl
    · obtain ⟨x, y, a, b, h1, h2, h3⟩ := h s hs
      exact ⟨(x, y, a, b), fun _ => ⟨h1, h2, h3⟩⟩
    · exact ⟨(.non, .non, fun _ => none, fun _ => none), fun z => absurd z hs⟩
  refine ⟨fun s => (Classical.choose (h' s)).1, fun s => (Classical.choose (h' s)).2.1, fun s => (Classical.choose (h' s)).2.2.1, fun s => (Classical.choose (h' s)).2.2.2, fun s hs => (Classical.choose_spec (h' s) hs).1, fun s hs => (Classical.choose_spec (h' s) hs).2.1, fun s hs => (Classical.choose_spec (h' s) hs).2.2⟩
def MoI (i : Nat) (k : Int) (M : Mem) (L : Nat) (nodes exits fl : List Str) (pre : List (Option PV)) (j : Nat) (ε : Env) (N : Mem) : Prop := ∃ (f : Str → PV) (p10 : Option PV), ε = pre ++ [some (.ref L), p10] ∧ Aft i (k + 100 * (j : Int)) M N ∧ N[L]? = some (.dic (dicF (fl.take j) f)) ∧ ∀ s ∈ fl.take j, FlR nodes exits (f s)
def MoR (a b : Nat) (v : PV) : Prop := ∃ m : Mdl, v = m.pv ∧ GM m a b
theorem parts3 {α : Type} (l : List α) (a b : Nat) : l.take a ++ (l.drop a).take b ++ l.drop (a + b) = l := by
  rw [List.append_assoc, ← List.drop_drop, List.take_append_drop, List.take_append_drop]
set_option maxHeartbeats 1000000 in
theorem modelRp {a b : Nat} (hD : DS M i k) (hk : k < 2 ^ 36) (ha : 1 ≤ a) (ha8 : a ≤ 8) (hb : 1 ≤ b) (hb3 : b ≤ 3) :
    Rp (WT.call G 100000 (n + 5) 24 [.ref i, .int (a : Int), .int (b : Int)] M) (fun v N => MoR a b v ∧ Aft i (k + 500) M N ∧ N.length = M.length) nev := by
  refine rp_dr (d := f24) rfl rfl hD ?_
  show Wp (exs ⟨WT.call G 100000 (n + 4), 100000, G⟩ b24 [some (.ref i), some (.int (a : Int)), some (.int (b : Int)), none, none, none, none, none, none, none, none] M) _
  unfold b24
  have hi := hD.lt
  generalize hQ : Dr i (k + 500) M (MoR a b) = Q0
  simp
  refine rp_draw hfd hD (by omega) (by omega) (by omega) fun d1 N1 hd1 hN1 hl1 => ?_
  simp
  refine rp_draw hfd hN1.ds (by omega) (by omega) (by omega) fun d2 N2 hd2 hN2 hl2 => ?_
  simp
  refine rp_draw hfd hN2.ds (by omega) (by omega) (by omega) fun d3 N3 hd3 hN3 hl3 => ?_
  simp
  rw [show (1 + (d1 : Int) + (1 + (d2 : Int)) + (1 + (d3 : Int))) = ((d1 + d2 + d3 + 3 : Nat) : Int) by omega]
  refine rp_names (n := n + 1) (m := d1 + d2 + d3 + 3) hfd hfp hfn (by omega) hN3.ds (by omega) fun ns N4 hns hg hnd hN4 hl4 => ?_
  have hA := ((hN1.trans hN2).trans hN3).trans hN4
  have hlN : N4.length = M.length := by omega
  simp
  have e1 : (1 + (d1 : Int)) = ((d1 + 1 : Nat) : Int) := by omega
  have e2 : (1 + (d1 : Int) + (1 + (d2 : Int))) = ((d1 + d2 + 2 : Nat) : Int) := by omega
  have c1 : cut (ns.map PV.str) none (some (1 + (d1 : Int))) = (ns.take (d1 + 1)).map .str := by rw [e1, cut_take, List.map_take]
  have c2 : cut (ns.map PV.str) (some (1 + (d1 : Int))) (some (1 + (d1 : Int) + (1 + (d2 : Int)))) = ((ns.drop (d1 + 1)).take (d2 + 1)).map .str := by
    rw [e2, e1, cut_mid _ _ _ (by rw [List.length_map]; omega) (by omega), List.map_take, List.map_drop, show d1 + d2 + 2 - (d1 + 1) = d2 + 1 by omega]
  have c3 : cut (ns.map PV.str) (some (1 + (d1 : Int) + (1 + (d2 : Int)))) none = (ns.drop (d1 + 1 + (d2 + 1))).map .str := by
    rw [e2, cut_drop, List.map_drop, show d1 + 1 + (d2 + 1) = d1 + d2 + 2 by omega]
  have hp3 := parts3 ns (d1 + 1) (d2 + 1)
  have l1 : (ns.take (d1 + 1)).length = d1 + 1 := by rw [List.length_take]; omega
  have l2 : ((ns.drop (d1 + 1)).take (d2 + 1)).length = d2 + 1 := by rw [List.length_take, List.length_drop]; omega
  have l3 : (ns.drop (d1 + 1 + (d2 + 1))).length = d3 + 1 := by rw [List.length_drop]; omega
  rw [c1, c2]
  generalize ns.take (d1 + 1) = nodes at l1 hp3
  generalize (ns.drop (d1 + 1)).take (d2 + 1) = exits at l2 hp3
  generalize ns.drop (d1 + 1 + (d2 + 1)) = fl at l3 hp3 c3
  have hgN : Good nodes := fun s hs => hg s (by rw [← hp3]; exact List.mem_append_left _ (List.mem_append_left _ hs))
  have hnd' : (nodes ++ exits ++ fl).Nodup := by rw [hp3]; exact hnd
  have hndN : nodes.Nodup := (List.nodup_append.mp (List.nodup_append.mp hnd').1).1
  have hndF : fl.Nodup := (List.nodup_append.mp hnd').2.1
  refine wp_for (MoI i (k + 163) M N4.length nodes exits fl [some (.ref i), some (.int (a : Int)), some (.int (b : Int)), some (.int (1 + (d1 : Int))), some (.int (1 + (d2 : Int))), some (.int (1 + (d3 : Int))), some (.lst (ns.map .str)), some (.lst (nodes.map .str)), some (.lst (exits.map .str))]) ?_
  simp
  rw [c3]
  simp
  refine ⟨⟨fun _ => .non, none, rfl, ?_, ?_, by simp⟩, ?_, ?_⟩
  · refine (hA.mono ?_).push
    omega
  · simp [dicF]
  · rintro j x ε N s hs rfl ⟨f, p10, rfl, hN, hc, hf⟩
    have hjl := (List.getElem?_eq_some_iff.mp hs).1
    refine ⟨_, rfl, ?_⟩
    show Wp (exs _ b24_1 [some (.ref i), some (.int (a : Int)), some (.int (b : Int)), some (.int (1 + (d1 : Int))), some (.int (1 + (d2 : Int))), some (.int (1 + (d3 : Int))), some (.lst (ns.map .str)), some (.lst (nodes.map .str)), some (.lst (exits.map .str)), some (.ref N4.length), some (.str s)] N) _
    unfold b24_1
    refine wp_setS ?_
    simp
    refine Rp.use (flowRp (n := n) hN.ds (by omega) hgN hndN (by omega) (by omega) (by omega) (by omega)) ?_
    rintro v N5 ⟨hv, hN5, hl5⟩
    have c := hN5.at hc (by omega)
    have lt := (List.getElem?_eq_some_iff.mp c).1
    refine ⟨_, c, by rw [dicF_len, List.length_take]; omega, ?_⟩
    have hfr := fresh1 hndF hs
    rw [dicF_put (f' := fun t => if t = s then v else f t) hfr (fun t ht => by rw [if_neg (show ¬ t = s from fun e => hfr (e ▸ ht))]) (by rw [if_pos rfl]), ← take_one hs]
    refine ⟨_, _, rfl, ((hN.trans hN5).mono (by push_cast; omega)).young hi (by omega), by rw [List.getElem?_set_self lt], fun t ht => ?_⟩
    show FlR nodes exits (if t = s then v else f t)
    by_cases e : t = s
    · rw [if_pos e]; exact hv
    · rw [if_neg e]
      rw [take_one hs] at ht
      rcases List.mem_append.mp ht with ht | ht
      · exact hf t ht
      · exact absurd (List.mem_singleton.mp ht) e
  · rintro ε N ⟨f, p10, rfl, hN, hc, hf⟩
    rw [List.take_length] at hc hf
    obtain ⟨to, tn, old, new, q1, q2, q3⟩ := choose_flows hf
    have ef : dicF fl f = dicF fl fun f => .tup [to f, tn f] := List.map_congr_left fun s hs => by rw [q1 s hs]
    rw [ef] at hc
    have hgm : GM ⟨nodes, exits, fl, to, tn, old, new⟩ a b := ⟨by show 1 ≤ nodes.length; omega, by show nodes.length ≤ a; omega, by show 1 ≤ exits.length; omega, by show exits.length ≤ 3; omega, by show 1 ≤ fl.length; omega, by show fl.length ≤ b; omega, by show Good (nodes ++ exits ++ fl); rw [hp3]; exact hg, hnd', q2, q3⟩
    refine wp_ghD (j := N4.length) rfl hc ?_
    have hN0 := (hN.mono (show k + 163 + 100 * (fl.length : Int) ≤ k + 500 by omega)).young (c := Cell.dead) hi (show M.length ≤ N4.length by omega)
    generalize N.set N4.length Cell.dead = N5 at hN0
    simp
    refine rp_disp ?_
    simp
    refine ⟨_, rfl, by show 3 ≤ 15; omega, ?_, ?_⟩
    · rw [merge3 (by decide) (by decide) (by decide)]
      exact hgm.lt (m := ⟨nodes, exits, fl, to, tn, old, new⟩)
    · rw [merge3 (by decide) (by decide) (by decide), ← hQ]
      exact ⟨hgm.lt (m := ⟨nodes, exits, fl, to, tn, old, new⟩), hN0, ⟨nodes, exits, fl, to, tn, old, new⟩, rfl, hgm⟩
end
end LW
set_option maxRecDepth 100000
set_option autoImplicit false
/-! Networks and tables. -/
namespace LW
open PySem (Str CmpOp Operator PyData)
open WT
theorem nameCall {n : Nat} {M : Mem} {s : Str} (h : PyData.strOk s = true) : WT.call G 100000 (n + 1) 3 [.str s] M = .ok (.bl (nmS s)) M :=
  call_ok (d := f3) rfl rfl rfl (name_str h)
def netF (ns es : List Str) : List (Nat × PV) := [(1, .tup (ns.map .str)), (2, .tup (es.map .str))]
def netP (ns es : List Str) : PV := .ins 5 (netF ns es)
def tabF (ns es : List Str) (h : Str → Option Str) : List (Nat × PV) := [(6, netP ns es), (7, .dic (dicF ns fun s => hopV (h s)))]
def tabP (ns es : List Str) (h : Str → Option Str) : PV := .ins 6 (tabF ns es h)
theorem net_lt {ns es : List Str} {k : Nat} : (netP ns es).lt k = true := by
  show (PV.lts k (ns.map .str) && (PV.lts k (es.map .str) && true)) = true
  rw [strs_lt, strs_lt]
  rfl
theorem hop_lt {k : Nat} (x : Option Str) : (hopV x).lt k = true := by cases x <;> rfl
theorem tab_lt {ns es : List Str} {h : Str → Option Str} {k : Nat} : (tabP ns es h).lt k = true := by
  show ((netP ns es).lt k && (PV.ltd k (dicF ns fun s => hopV (h s)) && true)) = true
  rw [net_lt, ltd_dicF fun s _ => hop_lt _]
  rfl
section
variable {n : Nat} {M : Mem} {ns es ns2 es2 : List Str} {h h2 : Str → Option Str} {v : PV} {Q E : PV → Mem → Prop}
/-! ### networks -/
structure GN (ns es : List Str) : Prop where
  n1 : 1 ≤ ns.length
  n2 : ns.length ≤ 8
  e1 : 1 ≤ es.length
  e2 : es.length ≤ 3
  good : Good (ns ++ es)
  nd : (ns ++ es).Nodup
namespace GN
theorem gN (g : GN ns es) : Good ns := fun s hs => g.good s (List.mem_append_left _ hs)
theorem gE (g : GN ns es) : Good es := fun s hs => g.good s (List.mem_append_right _ hs)
theorem ndN (g : GN ns es) : ns.Nodup := (List.nodup_append.mp g.nd).1
end GN
def NwI (M0 : Mem) (L : Nat) (vs : List PV) (all : List Str) (j : Nat) (ε : Env) (N : Mem) : Prop := (∃ p4, ε = vs.map some ++ [some (.ref M0.length), p4]) ∧ N = M0 ++ [cellS (all.take j)]
theorem netInit (g : GN ns es) : WT.call G 100000 (n + 2) 4 [.ref M.length, .lst (ns.map .str), .lst (es.map .str)] (M ++ [Cell.ins 5 []]) = .ok .non (M ++ [Cell.ins 5 (netF ns es)]) := by
  have hr : Rp (WT.call G 100000 (n + 2) 4 [.ref M.length, .lst (ns.map .str), .lst (es.map .str)] (M ++ [Cell.ins 5 []])) (fun a N => a = .non ∧ N = M ++ [Cell.ins 5 (netF ns es)]) nev := by
    refine rp_def (d := f4) rfl rfl ?_
    show Wp (exs ⟨WT.call G 100000 (n + 1), 100000, G⟩ b4 [some (.ref M.length), some (.lst (ns.map .str)), some (.lst (es.map .str)), none, none] (M ++ [Cell.ins 5 []])) _
    unfold b4
    have h1 := g.n1
    have h2 := g.n2
    have h3 := g.e1
    have h4 := g.e2
    have c1 : (1 : Int) ≤ (ns.length : Int) := by omega
    have c2 : (ns.length : Int) ≤ 8 := by omega
    have c3 : (1 : Int) ≤ (es.length : Int) := by omega
    have c4 : (es.length : Int) ≤ 3 := by omega
    have at0 : (M ++ [Cell.ins 5 []])[M.length]? = some (Cell.ins 5 []) := by simp
    have st0 : ∀ d, (M ++ [Cell.ins 5 []]).set M.length d = M ++ [d] := fun d => by simp
    have le0 : M.length < (M ++ [Cell.ins 5 []]).length := by simp
    have lf : ∀ k, PV.ltf k (netF ns es) = true := fun k => by
      show (PV.lts k (ns.map .str) && (PV.lts k (es.map .str) && true)) = true
      rw [strs_lt, strs_lt]
      rfl
    generalize hM0 : M ++ [Cell.ins 5 []] = M0 at at0 st0 le0
    generalize hL : M.length = L at at0 st0 le0
    simp
    refine wp_for (NwI M0 L [.ref L, .lst (ns.map .str), .lst (es.map .str)] (ns ++ es)) ?_
    simp
    refine ⟨by omega, ⟨⟨_, rfl⟩, rfl⟩, ?_, ?_⟩
    · rintro j x ε N hj ⟨⟨p4, rfl⟩, rfl⟩
      rw [← List.map_append, List.getElem?_map] at hj
      obtain ⟨s, hs, rfl⟩ := Option.map_eq_some_iff.mp hj
      obtain ⟨hn, ho⟩ := g.good s (List.mem_of_getElem? hs)
      have hf := fresh1 g.nd hs
      refine ⟨_, rfl, ?_⟩
      show Wp (exs _ b4_1 [some (.ref L), some (.lst (ns.map .str)), some (.lst (es.map .str)), some (.ref M0.length), some (.str s)] _) _
      unfold b4_1
      simp
      refine Rp.of (nameCall ho) ?_
      rw [hn]
      simp
      rw [rp_inS (.inr (.inr ⟨_, rfl, cellS_at⟩)), decide_eq_false hf]
      simp
      rw [kbme_list (fun _ => rfl) cellS_at]
      simp
      refine rp_appS (by rw [List.length_take, List.length_append]; omega) ?_
      rw [← take_one hs]
      simp
      exact ⟨⟨_, rfl⟩, rfl⟩
    · rintro ε N ⟨⟨p4, rfl⟩, rfl⟩
      simp [c1, c2, c3, c4]
      refine wp_setfG (L := L) (c := 5) (fs := []) ?_
      simp
      refine ⟨by rw [List.getElem?_append_left le0]; exact at0, by decide, ?_⟩
      rw [List.set_append_left _ _ le0]
      refine wp_setfG (L := L) (c := 5) (fs := [(1, .tup (ns.map .str))]) ?_
      simp
      refine ⟨by rw [List.getElem?_append_left (by rw [List.length_set]; exact le0), List.getElem?_set_self le0]; rfl, by decide, ?_⟩
      rw [List.set_append_left _ _ (by rw [List.length_set]; exact le0), List.set_set]
      show (fin M0 .non (M0.set L (Cell.ins 5 (netF ns es)) ++ _)).2 = _
      rw [fin_setApp (d := Cell.ins 5 (netF ns es)) rfl (lf _), st0]
  obtain ⟨a, N, e, rfl, rfl⟩ := hr.get
  exact e
theorem netCall (g : GN ns es) : WT.call G 100000 (n + 3) 28 [.lst (ns.map .str), .lst (es.map .str)] M = .ok (netP ns es) M := by
  rw [call_mk (G := G) (n := n + 2) (f := 28) (c := 5) (init := 4) (fr := true) rfl, netInit g]
  show mkFrz M (M ++ [Cell.ins 5 (netF ns es)]) = _
  unfold mkFrz
  have at0 : ∀ c : Cell, (M ++ [c])[M.length]? = some c := fun c => by simp
  have st0 : ∀ c d : Cell, (M ++ [c]).set M.length d = M ++ [d] := fun c d => by simp
  simp only [at0, st0]
  rw [fin_of (v := .ins 5 (netF ns es)) net_lt .app]
  rw [List.take_append_of_le_length (Nat.le_refl _), List.take_length]
  rfl
theorem fld_nodes0 : Kfld ⟨WT.call G 100000 n, 100000, G⟩ 1 Q E (netP ns es) M ↔ Q (.tup (ns.map .str)) M := kfld_own rfl rfl rfl
theorem fld_exits0 : Kfld ⟨WT.call G 100000 n, 100000, G⟩ 2 Q E (netP ns es) M ↔ Q (.tup (es.map .str)) M := kfld_own rfl rfl rfl
theorem nodesOf : WT.call G 100000 (n + 1) 5 [netP ns es] M = .ok (.tup (ns.map .str)) M := by
  refine def_eq (d := f5) rfl rfl ?_
  show Wp (exs ⟨WT.call G 100000 n, 100000, G⟩ b5 [some (netP ns es)] M) _
  unfold b5
  rw [wp_ret, rp_fld, rp_loc0, fld_nodes0, kret, fin_rtP, fin_self (v := .tup _) strs_lt]
  exact ⟨rfl, rfl⟩
theorem exitsOf : WT.call G 100000 (n + 1) 6 [netP ns es] M = .ok (.tup (es.map .str)) M := by
  refine def_eq (d := f6) rfl rfl ?_
  show Wp (exs ⟨WT.call G 100000 n, 100000, G⟩ b6 [some (netP ns es)] M) _
  unfold b6
  rw [wp_ret, rp_fld, rp_loc0, fld_exits0, kret, fin_rtP, fin_self (v := .tup _) strs_lt]
  exact ⟨rfl, rfl⟩
theorem fld_nodes : Kfld ⟨WT.call G 100000 (n + 1), 100000, G⟩ 3 Q E (netP ns es) M ↔ Q (.tup (ns.map .str)) M := kfld_prop rfl rfl rfl (nodesOf (n := n) (es := es))
theorem fld_exits : Kfld ⟨WT.call G 100000 (n + 1), 100000, G⟩ 4 Q E (netP ns es) M ↔ Q (.tup (es.map .str)) M := kfld_prop rfl rfl rfl (exitsOf (n := n) (ns := ns))
theorem net_kind {C : Ctx} (hC : C.G = G) : isAny C.G M (netP ns es) [.cls 5] = some true := by rw [hC]; rfl
theorem net_known : known G M (netP ns es) = true := rfl
theorem eqNet (g : Good (ns ++ es)) (g2 : Good (ns2 ++ es2)) : WT.call G 100000 (n + 1) 7 [netP ns es, netP ns2 es2] M = .ok (.bl (decide (ns = ns2) && decide (es = es2))) M := by
  refine def_eq (d := f7) rfl rfl ?_
  show Wp (exs ⟨WT.call G 100000 n, 100000, G⟩ b7 [some (netP ns es), some (netP ns2 es2)] M) _
  unfold b7
  simp
  rw [kisi (net_kind rfl)]
  simp
  rw [fld_nodes0]
  simp
  rw [fld_nodes0]
  simp
  rw [rp_eqTS (fun x hx => (g x (List.mem_append_left _ hx)).2) (fun x hx => (g2 x (List.mem_append_left _ hx)).2)]
  by_cases e : ns = ns2
  · rw [decide_eq_true e]
    simp
    rw [fld_exits0]
    simp
    rw [fld_exits0]
    simp
    rw [rp_eqTS (fun x hx => (g x (List.mem_append_right _ hx)).2) (fun x hx => (g2 x (List.mem_append_right _ hx)).2)]
    simp
    rw [fin_self rfl]
  · rw [decide_eq_false e]
    simp
    rw [fin_self rfl]
/-! ### nodes, exits, next hops -/
theorem isNode {s : Str} : WT.call G 100000 (n + 2) 8 [netP ns es, .str s] M = .ok (.bl (decide (s ∈ ns))) M := by
  refine def_eq (d := f8) rfl rfl ?_
  show Wp (exs ⟨WT.call G 100000 (n + 1), 100000, G⟩ b8 [some (netP ns es), some (.str s)] M) _
  unfold b8
  simp
  rw [fld_nodes]
  simp
  rw [rp_inS (.inr (.inl rfl))]
  simp
  rw [fin_self rfl]
theorem isExit {s : Str} : WT.call G 100000 (n + 2) 9 [netP ns es, .str s] M = .ok (.bl (decide (s ∈ es))) M := by
  refine def_eq (d := f9) rfl rfl ?_
  show Wp (exs ⟨WT.call G 100000 (n + 1), 100000, G⟩ b9 [some (netP ns es), some (.str s)] M) _
  unfold b9
  simp
  rw [fld_exits]
  simp
  rw [rp_inS (.inr (.inl rfl))]
  simp
  rw [fin_self rfl]
theorem isHop {x : Option Str} (hx : hopOk ns es x) : WT.call G 100000 (n + 3) 10 [netP ns es, hopV x] M = .ok (.bl true) M := by
  refine def_eq (d := f10) rfl rfl ?_
  show Wp (exs ⟨WT.call G 100000 (n + 2), 100000, G⟩ b10 [some (netP ns es), some (hopV x)] M) _
  unfold b10
  cases x with
  | none =>
    simp
    show (Kor _ _ _ _ _ (.bl true) M : Prop)
    simp
    rw [fin_self rfl]
  | some s =>
    simp
    show (Kor _ _ _ _ _ (.bl false) M : Prop)
    simp
    refine Rp.of isNode ?_
    by_cases h1 : s ∈ ns
    · rw [decide_eq_true h1]
      simp
      rw [fin_self rfl]
    · rw [decide_eq_false h1]
      simp
      refine Rp.of isExit ?_
      rw [decide_eq_true ((hx s rfl).resolve_left h1)]
      simp
      rw [fin_self rfl]
/-! ### tables -/
def TbI (M0 : Mem) (a b c : PV) (j : Nat) (ε : Env) (N : Mem) : Prop := (∃ p3, ε = [some a, some b, some c, p3, none]) ∧ N = M0
def TbJ (M0 : Mem) (a b c : PV) (j : Nat) (ε : Env) (N : Mem) : Prop := (∃ p3 p4, ε = [some a, some b, some c, p3, p4]) ∧ N = M0
theorem tabInit (g : GN ns es) (t : TB ns es v h) : WT.call G 100000 (n + 4) 11 [.ref M.length, netP ns es, v] (M ++ [Cell.ins 6 []]) = .ok .non (M ++ [Cell.ins 6 (tabF ns es h)]) := by
  have hr : Rp (WT.call G 100000 (n + 4) 11 [.ref M.length, netP ns es, v] (M ++ [Cell.ins 6 []])) (fun a N => a = .non ∧ N = M ++ [Cell.ins 6 (tabF ns es h)]) nev := by
    refine rp_def (d := f11) rfl rfl ?_
    show Wp (exs ⟨WT.call G 100000 (n + 3), 100000, G⟩ b11 [some (.ref M.length), some (netP ns es), some v, none, none] (M ++ [Cell.ins 6 []])) _
    unfold b11
    obtain ⟨ks, hp, rfl, hh⟩ := t
    have hks : ∀ s, s ∈ ns → getK (.str s) (dicF ks fun s => hopV (h s)) = some (hopV (h s)) := fun s hs => by rw [getK_dicF, if_pos (hp.mem_iff.mpr hs)]
    have h2 := g.n2
    simp
    generalize hM0 : M ++ [Cell.ins 6 []] = M0
    refine wp_for (TbI M0 (.ref M.length) (netP ns es) (.dic (dicF ks fun s => hopV (h s)))) ?_
    simp
    rw [fld_nodes]
    simp
    refine ⟨⟨⟨_, rfl⟩, rfl⟩, ?_, ?_⟩
    · rintro j x ε N s hs rfl ⟨⟨p3, rfl⟩, rfl⟩
      refine ⟨_, rfl, ?_⟩
      show Wp (exs _ b11_1 [some (.ref M.length), some (netP ns es), some (.dic (dicF ks fun s => hopV (h s))), some (.str s), none] _) _
      unfold b11_1
      have hm := List.mem_of_getElem? hs
      simp
      rw [rp_ninD rfl, hks s hm]
      simp
      rw [rp_ixD rfl (hks s hm)]
      simp
      refine Rp.of (isHop (hh s hm)) ?_
      simp
      exact ⟨⟨_, rfl⟩, rfl⟩
    · rintro ε N ⟨⟨p3, rfl⟩, rfl⟩
      refine wp_for (TbJ N (.ref M.length) (netP ns es) (.dic (dicF ks fun s => hopV (h s)))) ?_
      simp
      rw [kofD (dicF_fit fun s hs => g.gN.short s (hp.mem_iff.mp hs)), dicF_keys]
      simp
      refine ⟨⟨⟨_, _, rfl⟩, rfl⟩, ?_, ?_⟩
      · rintro j x ε N s hs rfl ⟨⟨p3, p4, rfl⟩, rfl⟩
        refine ⟨_, rfl, ?_⟩
        show Wp (exs _ b11_2 [some (.ref M.length), some (netP ns es), some (.dic (dicF ks fun s => hopV (h s))), p3, some (.str s)] _) _
        unfold b11_2
        have hm := hp.mem_iff.mp (List.mem_of_getElem? hs)
        simp
        refine Rp.of isNode ?_
        rw [decide_eq_true hm]
        simp
        exact ⟨⟨_, _, rfl⟩, rfl⟩
      · rintro ε N ⟨⟨p3, p4, rfl⟩, rfl⟩
        rw [← hM0]
        refine wp_setF ?_
        simp
        refine ⟨by decide, ?_⟩
        refine wp_setF ?_
        simp
        refine rp_dcS (fun s => hopV (h s)) g.ndN (by omega) (fun s _ => hop_lt _) ?_
        rw [rp_of, rp_fld, rp_locS, rp_loc0, fld_nodes, kofT]
        refine ⟨rfl, rfl, fun s hs acc => ⟨_, rfl, rfl, ?_⟩, ?_⟩
        · refine ev_of ?_
          show Rp (ev _ (.idx (.loc 2) (.loc 3)) [some (.ref M.length), some (netP ns es), some (.dic (dicF ks fun s => hopV (h s))), some (.str s), p4] _) _ _
          simp
          rw [rp_ixD rfl (hks s hs)]
          exact ⟨rfl, rfl⟩
        · refine ⟨rfl, ⟨by show 1 < 1000; omega, by decide⟩, ?_⟩
          have e : M ++ [Cell.ins 6 (putF 7 (.dic (dicF ns fun s => hopV (h s))) (putF 6 (netP ns es) []))] = (M ++ [Cell.ins 6 []]).set M.length (Cell.ins 6 (tabF ns es h)) := by
            rw [List.set_append_right _ _ (Nat.le_refl _), Nat.sub_self]
            rfl
          have lf : ∀ k, PV.ltf k (tabF ns es h) = true := fun k => tab_lt (k := k)
          show (fin (M ++ [Cell.ins 6 []]) .non (M ++ [Cell.ins 6 (putF 7 (.dic (dicF ns fun s => hopV (h s))) (putF 6 (netP ns es) []))])).2 = _
          rw [e, fin_set (M := M ++ [Cell.ins 6 []]) (v := .non) (i := M.length) (d := Cell.ins 6 (tabF ns es h)) rfl (lf _)]
          rw [List.set_append_right _ _ (Nat.le_refl _), Nat.sub_self]
          rfl
  obtain ⟨a, N, e, rfl, rfl⟩ := hr.get
  exact e
theorem tabCall (g : GN ns es) (t : TB ns es v h) : WT.call G 100000 (n + 5) 29 [netP ns es, v] M = .ok (tabP ns es h) M := by
  rw [call_mk (G := G) (n := n + 4) (f := 29) (c := 6) (init := 11) (fr := true) rfl, tabInit g t]
  show mkFrz M (M ++ [Cell.ins 6 (tabF ns es h)]) = _
  unfold mkFrz
  have at0 : ∀ c : Cell, (M ++ [c])[M.length]? = some c := fun c => by simp
  have st0 : ∀ c d : Cell, (M ++ [c]).set M.length d = M ++ [d] := fun c d => by simp
  simp only [at0, st0]
  rw [fin_of (v := .ins 6 (tabF ns es h)) tab_lt .app]
  rw [List.take_append_of_le_length (Nat.le_refl _), List.take_length]
  rfl
theorem fld_net0 : Kfld ⟨WT.call G 100000 n, 100000, G⟩ 6 Q E (tabP ns es h) M ↔ Q (netP ns es) M := kfld_own rfl rfl rfl
theorem fld_hops0 : Kfld ⟨WT.call G 100000 n, 100000, G⟩ 7 Q E (tabP ns es h) M ↔ Q (.dic (dicF ns fun s => hopV (h s))) M := kfld_own rfl rfl rfl
theorem tabNetOf : WT.call G 100000 (n + 1) 12 [tabP ns es h] M = .ok (netP ns es) M := by
  refine def_eq (d := f12) rfl rfl ?_
  show Wp (exs ⟨WT.call G 100000 n, 100000, G⟩ b12 [some (tabP ns es h)] M) _
  unfold b12
  rw [wp_ret, rp_fld, rp_loc0, fld_net0, kret, fin_rtP, fin_self net_lt]
  exact ⟨rfl, rfl⟩
theorem fld_tnet : Kfld ⟨WT.call G 100000 (n + 1), 100000, G⟩ 10 Q E (tabP ns es h) M ↔ Q (netP ns es) M := kfld_prop rfl rfl rfl (tabNetOf (n := n) (h := h))
theorem getCall {s : Str} (hs : s ∈ ns) : WT.call G 100000 (n + 3) 13 [tabP ns es h, .str s] M = .ok (hopV (h s)) M := by
  refine def_eq (d := f13) rfl rfl ?_
  show Wp (exs ⟨WT.call G 100000 (n + 2), 100000, G⟩ b13 [some (tabP ns es h), some (.str s)] M) _
  unfold b13
  simp
  rw [fld_net0]
  simp
  refine Rp.of isNode ?_
  rw [decide_eq_true hs]
  simp
  rw [fld_hops0]
  simp
  rw [rp_ixD (v := hopV (h s)) rfl (by rw [getK_dicF, if_pos hs])]
  simp
  rw [fin_self (hop_lt _)]
theorem tab_kind {C : Ctx} (hC : C.G = G) : isAny C.G M (tabP ns es h) [.cls 6] = some true := by rw [hC]; rfl
theorem tab_known : known G M (tabP ns es h) = true := rfl
theorem eqTab (g : GN ns es) (g2 : GN ns2 es2) (hh : ∀ s ∈ ns, hopOk ns es (h s) ∧ hopOk ns2 es2 (h2 s)) : WT.call G 100000 (n + 2) 16 [tabP ns es h, tabP ns2 es2 h2] M = .ok (.bl (decide (ns = ns2) && decide (es = es2) && decide (∀ s ∈ ns, h s = h2 s))) M := by
  refine def_eq (d := f16) rfl rfl ?_
  show Wp (exs ⟨WT.call G 100000 (n + 1), 100000, G⟩ b16 [some (tabP ns es h), some (tabP ns2 es2 h2)] M) _
  unfold b16
  simp
  rw [kisi (tab_kind rfl)]
  simp
  rw [fld_net0]
  simp
  rw [fld_net0]
  simp
  rw [rp_eqO (c := 5) rfl rfl net_known (eqNet g.good g2.good)]
  by_cases e : ns = ns2 ∧ es = es2
  · obtain ⟨rfl, rfl⟩ := e
    simp
    rw [fld_hops0]
    simp
    rw [fld_hops0]
    simp
    have ok : ∀ {x : Option Str}, hopOk ns es x → hopStr x := fun hx s hs => by
      rcases hx s hs with q | q
      · exact (g.gN s q).2
      · exact (g.gE s q).2
    rw [rp_eqDH fun s hs => ⟨ok (hh s hs).1, ok (hh s hs).2⟩]
    simp
    rw [fin_self rfl]
  · have : (decide (ns = ns2) && decide (es = es2)) = false := by
      rw [Bool.and_eq_false_iff, decide_eq_false_iff_not, decide_eq_false_iff_not]
      by_cases e1 : ns = ns2
      · exact .inr fun e2 => e ⟨e1, e2⟩
      · exact .inl e1
    rw [this]
    simp
    rw [fin_self rfl]
end
end LW
set_option maxRecDepth 100000
set_option autoImplicit false
/-! Tables held against each other: ^. -/
namespace LW
open PySem (Str CmpOp Operator PyData)
open WT
section
variable {n : Nat} {M : Mem} {ns es : List Str} {h h2 : Str → Option Str} {v : PV} {Q E : PV → Mem → Prop}
def difS (ns : List Str) (h h2 : Str → Option Str) : List Str := ns.filter fun s => !decide (h s = h2 s)
theorem filt_strs {ns : List Str} {p : Str → Bool} {q : PV → Bool} (hq : ∀ s, q (.str s) = p s) : ((ns.map PV.str).filter q).map id = (ns.filter p).map .str := by
  rw [List.map_id, List.filter_map]
  congr 1
  exact List.filter_congr fun s _ => hq s
theorem xorCall (g : GN ns es) : WT.call G 100000 (n + 2) 15 [tabP ns es h, tabP ns es h2] M = .ok (.tup ((difS ns h h2).map .str)) M := by
  refine def_eq (d := f15) rfl rfl ?_
  show Wp (exs ⟨WT.call G 100000 (n + 1), 100000, G⟩ b15 [some (tabP ns es h), some (tabP ns es h2), none] M) _
  unfold b15
  have h2' := g.n2
  simp
  rw [kisi (tab_kind rfl)]
  simp
  refine rp_lcP id (fun x => match x with
    | .str s => !decide (h s = h2 s)
    | _ => false) ?_
  rw [rp_of, rp_fld, rp_fld, rp_loc0, fld_net0, fld_nodes, kofT]
  refine ⟨rfl, rfl, by rw [List.length_map]; unfold sline; omega, fun x hx _ => ?_, fun x hx acc => ?_, ?_⟩
  · obtain ⟨s, _, rfl⟩ := List.mem_map.mp hx
    rfl
  · obtain ⟨s, hs, rfl⟩ := List.mem_map.mp hx
    refine ⟨_, rfl, test_of ?_, fun _ => rfl⟩
    show Rp (ev _ _ [some (tabP ns es h), some (tabP ns es h2), some (.str s)] _) _ _
    simp
    rw [fld_hops0]
    simp
    rw [rp_ixD (v := hopV (h s)) rfl (by rw [getK_dicF, if_pos hs])]
    simp
    rw [fld_hops0]
    simp
    rw [rp_ixD (v := hopV (h2 s)) rfl (by rw [getK_dicF, if_pos hs])]
    simp
    rw [rp_neH]
    simp
  · rw [filt_strs (p := fun s => !decide (h s = h2 s)) fun s => rfl]
    simp
    rw [fin_self (v := .tup _) strs_lt]
    exact ⟨rfl, rfl⟩
end
end LW
set_option maxRecDepth 100000
set_option autoImplicit false
/-! k03: two tables, as told; a far network. -/
namespace LW
open PySem (Str CmpOp Operator PyData)
open WT
section
variable {n : Nat} {M : Mem} {ns es : List Str} {h h2 : Str → Option Str} {x y : PV} {Q E : PV → Mem → Prop}
theorem dif_nil {ns : List Str} {h h2 : Str → Option Str} : decide (difS ns h h2 = []) = decide (∀ s ∈ ns, h s = h2 s) := by
  rw [Bool.eq_iff_iff, decide_eq_true_eq, decide_eq_true_eq]
  unfold difS
  rw [List.filter_eq_nil_iff]
  simp
theorem dif_comm {ns : List Str} {h h2 : Str → Option Str} : difS ns h2 h = difS ns h h2 := by
  unfold difS
  exact List.filter_congr fun s _ => by
    by_cases e : h s = h2 s
    · rw [decide_eq_true e, decide_eq_true e.symm]
    · rw [decide_eq_false e, decide_eq_false fun z => e z.symm]
theorem dif_sub {s : Str} (hs : s ∈ difS ns h h2) : s ∈ ns := (List.mem_filter.mp hs).1
theorem GN.ok (g : GN ns es) {x : Option Str} (hx : hopOk ns es x) : hopStr x := fun s hs => by
  rcases hx s hs with q | q
  · exact (g.gN s q).2
  · exact (g.gE s q).2
theorem hop_okP {x : Option Str} (hx : hopStr x) : okP (hopV x) = true ∧ dpP (hopV x) ≤ 0 := by
  cases x with
  | none => exact ⟨rfl, Nat.le_refl _⟩
  | some s => exact ⟨hx s rfl, Nat.le_refl _⟩
def RtI (a b c d e f g : PV) (j : Nat) (ε : Env) (N : Mem) (M : Mem) : Prop := (∃ p7 p8, ε = [some a, some b, some c, some d, some e, some f, some g, p7, p8]) ∧ N = M
set_option maxHeartbeats 1000000 in
theorem rightCall (g : GN ns es) (t : TB ns es x h) (t2 : TB ns es y h2) : WT.call G 100000 (n + 6) 25 [netP ns es, .lst (ns.map .str), x, y] M = .ok (.bl true) M := by
  refine def_eq (d := f25) rfl rfl ?_
  show Wp (exs ⟨WT.call G 100000 (n + 5), 100000, G⟩ b25 [some (netP ns es), some (.lst (ns.map .str)), some x, some y, none, none, none, none, none] M) _
  obtain ⟨kx, rfl, gx, hx, lx⟩ := t.get
  obtain ⟨ky, rfl, gy, hy, ly⟩ := t2.get
  unfold b25
  have hn2 := g.n2
  have okS : ∀ z ∈ difS ns h h2, PyData.strOk z = true := fun z hz => (g.gN z (dif_sub hz)).2
  generalize hQ : WT.Fin M (fun u N => u = PV.bl true ∧ N = M) nev = Q0
  simp
  refine Rp.of (tabCall g t) ?_
  simp
  refine Rp.of (tabCall g t2) ?_
  simp
  refine rp_lcP id (fun x => match x with
    | .str s => !decide (h s = h2 s)
    | _ => false) ?_
  rw [rp_of, rp_locS, rp_loc0, kofL]
  refine ⟨rfl, rfl, by rw [List.length_map]; unfold sline; omega, fun x hx _ => ?_, fun x hx acc => ?_, ?_⟩
  · obtain ⟨s, _, rfl⟩ := List.mem_map.mp hx
    rfl
  · obtain ⟨s, hs, rfl⟩ := List.mem_map.mp hx
    refine ⟨_, rfl, test_of ?_, fun _ => rfl⟩
    show Rp (ev _ _ [some (netP ns es), some (.lst (ns.map .str)), some (.dic kx), some (.dic ky), some (tabP ns es h), some (tabP ns es h2), none, none, some (.str s)] _) _ _
    simp
    rw [rp_ixD rfl (gx s hs)]
    simp
    rw [rp_ixD rfl (gy s hs)]
    simp
    rw [rp_neH]
    simp
  · rw [filt_strs (p := fun s => !decide (h s = h2 s)) fun s => rfl, show (ns.filter fun s => !decide (h s = h2 s)) = difS ns h h2 from rfl]
    simp
    refine wp_for (fun j ε N => RtI (netP ns es) (.lst (ns.map .str)) (.dic kx) (.dic ky) (tabP ns es h) (tabP ns es h2) (.tup ((difS ns h h2).map .str)) j ε N M) ?_
    simp
    rw [kopO2 rfl rfl rfl]
    refine Rp.of (xorCall g) ?_
    simp
    rw [kopO2 rfl rfl rfl]
    refine Rp.of (xorCall g) ?_
    rw [show difS ns h2 h = difS ns h h2 from dif_comm]
    simp
    refine ⟨⟨⟨_, _, rfl⟩, rfl⟩, ?_, ?_⟩
    · rintro j x ε N hj ⟨⟨p7, p8, rfl⟩, rfl⟩
      have hxx : x = .tup ((difS ns h h2).map .str) := by
        have := List.mem_of_getElem? hj
        simpa using this
      subst hxx
      refine ⟨_, rfl, ?_⟩
      show Wp (exs _ b25_1 [some (netP ns es), some (.lst (ns.map .str)), some (.dic kx), some (.dic ky), some (tabP ns es h), some (tabP ns es h2), some (.tup ((difS ns h h2).map .str)), some (.tup ((difS ns h h2).map .str)), p8] N) _
      unfold b25_1
      simp
      rw [kisi (b := true) rfl]
      simp
      rw [rp_neTS okS okS]
      simp
      exact ⟨⟨_, _, rfl⟩, rfl⟩
    · rintro ε N ⟨⟨p7, p8, rfl⟩, rfl⟩
      have eqv : ∀ {Q E : PV → Mem → Prop}, Rp (cmpop ⟨WT.call G 100000 (n + 5), 100000, G⟩ .Eq (tabP ns es h) (tabP ns es h2) N) Q E ↔ Q (.bl (decide (∀ s ∈ ns, h s = h2 s))) N := by
        intro Q E
        rw [rp_eqO (c := 6) rfl rfl tab_known (eqTab (n := n + 3) g g fun s hs => ⟨hx s hs, hy s hs⟩)]
        simp
      have nev' : ∀ {Q E : PV → Mem → Prop}, Rp (cmpop ⟨WT.call G 100000 (n + 5), 100000, G⟩ .NotEq (tabP ns es h) (tabP ns es h2) N) Q E ↔ Q (.bl (!decide (∀ s ∈ ns, h s = h2 s))) N := by
        intro Q E
        rw [rp_neO (c := 6) rfl rfl tab_known (eqTab (n := n + 3) g g fun s hs => ⟨hx s hs, hy s hs⟩)]
        simp
      have eN : ∀ {Q E : PV → Mem → Prop} {l : List Str}, (∀ z ∈ l, PyData.strOk z = true) → (Rp (cmpop ⟨WT.call G 100000 (n + 5), 100000, G⟩ .Eq (.tup (l.map .str)) (.tup []) N) Q E ↔ Q (.bl (decide (l = []))) N) := fun hl => rp_eqTS (ys := []) hl (fun _ z => by cases z)
      have nN : ∀ {Q E : PV → Mem → Prop} {l : List Str}, (∀ z ∈ l, PyData.strOk z = true) → (Rp (cmpop ⟨WT.call G 100000 (n + 5), 100000, G⟩ .NotEq (.tup (l.map .str)) (.tup []) N) Q E ↔ Q (.bl (!decide (l = []))) N) := fun hl => rp_neTS (ys := []) hl (fun _ z => by cases z)
      simp
      rw [eqv]
      simp
      rw [eN okS, dif_nil]
      simp
      rw [nev']
      simp
      rw [nN okS, dif_nil]
      simp
      have hl : ∀ {Q E : PV → Mem → Prop} (ce : CE) (hce : ∀ s ∈ ns, ∀ acc, ev ⟨WT.call G 100000 (n + 5), 100000, G⟩ ce [some (netP ns es), some (.lst (ns.map .str)), some (.dic kx), some (.dic ky), some (tabP ns es h), some (tabP ns es h2), some (.tup ((difS ns h h2).map .str)), p7, some (.str s)] (N ++ [Cell.lst acc]) = .ok (hopV (h s)) (N ++ [Cell.lst acc])), Q (.lst (ns.map fun s => hopV (h s))) N → RLc ⟨WT.call G 100000 (n + 5), 100000, G⟩ false [8] ce (.nm 8) (.of (.loc 1)) [] [some (netP ns es), some (.lst (ns.map .str)), some (.dic kx), some (.dic ky), some (tabP ns es h), some (tabP ns es h2), some (.tup ((difS ns h h2).map .str)), p7, p8] N Q E := fun ce hce hq => by
        refine rp_lc (fun x => match x with
          | .str s => hopV (h s)
          | _ => .non) ?_
        rw [rp_of, rp_locS, rp_loc0, kofL]
        refine ⟨rfl, rfl, by rw [List.length_map]; unfold sline; omega, fun x hx => ?_, fun x hx acc => ?_, ?_⟩
        · obtain ⟨s, _, rfl⟩ := List.mem_map.mp hx
          exact hop_lt _
        · obtain ⟨s, hs, rfl⟩ := List.mem_map.mp hx
          exact ⟨_, rfl, hce s hs acc⟩
        · rw [List.map_map]
          exact hq
      refine hl _ (fun s hs acc => ev_of ?_) ?_
      · simp
        rw [kopI2 rfl rfl]
        refine Rp.of (getCall hs) ?_
        simp
      refine hl _ (fun s hs acc => ev_of ?_) ?_
      · simp
        rw [rp_ixD rfl (gx s hs)]
        simp
      have ol : okPs (ns.map fun s => hopV (h s)) = true := okPs_of fun z hz => by
        obtain ⟨s, hs, rfl⟩ := List.mem_map.mp hz
        exact (hop_okP (g.ok (hx s hs))).1
      have dl : dpPs (ns.map fun s => hopV (h s)) ≤ 0 := dpPs_le fun z hz => by
        obtain ⟨s, hs, rfl⟩ := List.mem_map.mp hz
        exact (hop_okP (g.ok (hx s hs))).2
      rw [kcmp2, rp_eqD (b := true) (fun c fs h => by cases h) (fun c fs h => by cases h) (eq_lstSelf ol (by omega))]
      simp
      rw [kopO2 rfl rfl rfl]
      refine Rp.of (xorCall g) ?_
      have e0 : difS ns h h = [] := by
        have : decide (difS ns h h = []) = true := by rw [dif_nil]; simp
        exact of_decide_eq_true this
      rw [e0]
      simp
      refine (eN (l := []) (fun _ z => by cases z)).mpr ?_
      rw [← hQ]
      simp
      rw [fin_self rfl]
end
end LW
set_option maxRecDepth 100000
set_option autoImplicit false
/-! k03: a far network. -/
namespace LW
open PySem (Str CmpOp Operator PyData)
open WT
def qzs : List Str := ["qza", "qzb", "qzc", "qzd", "qze", "qzf", "qzg", "qzh", "qzi", "qzj", "qzk", "qzl"]
theorem qz_ok : (qzs.all fun s => nmS s && PyData.strOk s) = true := by decide +kernel
theorem qz_nd : qzs.Nodup := by decide +kernel
theorem qz_make : (chars "abcdefghijkl").map (fun x => match x with
    | .str s => PV.str (("qz" : Str) ++ s)
    | _ => .non) = qzs.map .str := by
  have : ((chars "abcdefghijkl").map fun x => match x with
    | .str s => (("qz" : Str) ++ s)
    | _ => "") = qzs := by decide +kernel
  rw [← this, List.map_map]
  refine List.map_congr_left fun x hx => ?_
  obtain ⟨c, _, rfl⟩ := List.mem_map.mp hx
  rfl
theorem fresh_qz {l : List Str} (h : l.length ≤ 11) : ∃ s r, (qzs.filter fun s => !decide (s ∈ l)) = s :: r ∧ s ∈ qzs ∧ s ∉ l := by
  cases e : qzs.filter fun s => !decide (s ∈ l) with
  | nil =>
    exfalso
    have := nodup_len qz_nd (b := l) fun s hs => by
      have := (List.filter_eq_nil_iff.mp e) s hs
      simpa using this
    have : qzs.length = 12 := rfl
    omega
  | cons s r =>
    have hm : s ∈ qzs.filter fun s => !decide (s ∈ l) := by rw [e]; exact List.mem_cons_self
    obtain ⟨h1, h2⟩ := List.mem_filter.mp hm
    exact ⟨s, r, rfl, h1, by simpa using h2⟩
section
variable {n : Nat} {M : Mem} {ns es : List Str} {h h2 : Str → Option Str} {x y : PV} {Q E : PV → Mem → Prop}
theorem farCall (g : GN ns es) : ∃ es2, es ≠ es2 ∧ (∀ s ∈ es, s ∈ es2) ∧ GN ns es2 ∧ WT.call G 100000 (n + 4) 26 [.lst (ns.map .str), .lst (es.map .str)] M = .ok (netP ns es2) M := by
  obtain ⟨s, r, e1, hs, hn⟩ := fresh_qz (l := ns ++ es) (by rw [List.length_append]; have := g.n2; have := g.e2; omega)
  have ok := List.all_eq_true.mp qz_ok s hs
  rw [Bool.and_eq_true] at ok
  have run : ∀ es2 : List Str, GN ns es2 → es2 = (if es.length < 3 then es ++ [s] else es.reverse) → WT.call G 100000 (n + 4) 26 [.lst (ns.map .str), .lst (es.map .str)] M = .ok (netP ns es2) M := fun es2 g2 he => by
    refine def_eq (d := f26) rfl rfl ?_
    show Wp (exs ⟨WT.call G 100000 (n + 3), 100000, G⟩ b26 [some (.lst (ns.map .str)), some (.lst (es.map .str)), none, none, none] M) _
    unfold b26
    have hn2 := g.n2
    have he2 := g.e2
    generalize hQ : WT.Fin M (fun u N => u = netP ns es2 ∧ N = M) nev = Q0
    simp
    refine rp_lcP id (fun x => match x with
      | .str s => !decide (s ∈ ns ++ es)
      | _ => false) ?_
    rw [rp_of, rp_lcB]
    refine rp_lc (fun x => match x with
      | .str s => PV.str (("qz" : Str) ++ s)
      | _ => .non) ?_
    rw [rp_of, rp_lit, kofS]
    refine ⟨rfl, rfl, by show 12 ≤ sline; unfold sline; omega, fun x hx => ?_, fun x hx acc => ?_, ?_⟩
    · obtain ⟨c, _, rfl⟩ := List.mem_map.mp hx
      rfl
    · obtain ⟨c, _, rfl⟩ := List.mem_map.mp hx
      refine ⟨_, rfl, ev_of ?_⟩
      show Rp (ev _ (.bin .Add false (.lit (.str "qz")) (.loc 4)) [some (.lst (ns.map .str)), some (.lst (es.map .str)), none, none, some (.str (sgn c))] _) _ _
      simp
      show 2 + 1 ≤ 16777216
      omega
    · rw [qz_make, kofL]
      refine ⟨rfl, rfl, by show 12 ≤ sline; unfold sline; omega, fun x hx _ => ?_, fun x hx acc => ?_, ?_⟩
      · obtain ⟨s, _, rfl⟩ := List.mem_map.mp hx
        rfl
      · obtain ⟨s, _, rfl⟩ := List.mem_map.mp hx
        refine ⟨_, rfl, test_of ?_, fun _ => rfl⟩
        show Rp (ev _ _ [some (.lst (ns.map .str)), some (.lst (es.map .str)), none, some (.str s), none] _) _ _
        rw [rp_cmp, rp_locS, rp_locS, rp_locS, rp_loc0, kcmp1, rp_bin, rp_loc0, kbin1, rp_locS, rp_loc0, kbin2, rp_addL]
        refine ⟨by rw [List.length_map, List.length_map]; omega, ?_⟩
        rw [kcmp2, ← List.map_append, rp_ninS (.inl rfl)]
        exact ⟨rfl, rfl⟩
      · rw [filt_strs (p := fun s => !decide (s ∈ ns ++ es)) fun s => rfl, e1]
        rw [kidx1, rp_lit, kidx2]
        refine Rp.of (i_lst (k := 0) (v := .str s) rfl) ?_
        simp
        by_cases h3 : es.length < 3
        · rw [if_pos h3] at he
          have h3' : (es.length : Int) < 3 := by omega
          simp [h3']
          refine ⟨by omega, ?_⟩
          rw [show es.map PV.str ++ [PV.str s] = es2.map .str by rw [he]; simp]
          refine Rp.of (netCall g2) ?_
          rw [← hQ]
          simp
          rw [fin_self net_lt]
        · rw [if_neg h3] at he
          have h3' : ¬ (es.length : Int) < 3 := by omega
          simp [h3']
          rw [show (es.map PV.str).reverse = es2.map .str by rw [he, List.map_reverse]]
          refine Rp.of (netCall g2) ?_
          rw [← hQ]
          simp
          rw [fin_self net_lt]
  have hnd := g.nd
  have hn2 := g.n2
  have he1 := g.e1
  have he2 := g.e2
  by_cases h3 : es.length < 3
  · have g2 : GN ns (es ++ [s]) := by
      refine ⟨g.n1, g.n2, by simp, by simp; omega, fun z hz => ?_, ?_⟩
      · rw [← List.append_assoc] at hz
        rcases List.mem_append.mp hz with hz | hz
        · exact g.good z hz
        · rw [List.mem_singleton.mp hz]; exact ok
      · rw [← List.append_assoc]
        refine List.nodup_append.mpr ⟨hnd, by simp, fun a ha b hb e => ?_⟩
        rw [List.mem_singleton.mp hb] at e
        exact hn (e ▸ ha)
    exact ⟨es ++ [s], fun e => by have := congrArg List.length e; simp at this, fun z hz => List.mem_append_left _ hz, g2, run _ g2 (by rw [if_pos h3])⟩
  · have hndE : es.Nodup := (List.nodup_append.mp hnd).2.1
    have g2 : GN ns es.reverse := by
      refine ⟨g.n1, g.n2, by simp; omega, by simp; omega, fun z hz => g.good z ?_, ?_⟩
      · rcases List.mem_append.mp hz with hz | hz
        · exact List.mem_append_left _ hz
        · exact List.mem_append_right _ (List.mem_reverse.mp hz)
      · exact ((List.Perm.refl ns).append (List.reverse_perm es)).symm.nodup hnd
    refine ⟨es.reverse, fun e => ?_, fun z hz => List.mem_reverse.mpr hz, g2, run _ g2 (by rw [if_neg h3])⟩
    match es, h3, he2, hndE, e with
    | [a, b, c], _, _, hd, e =>
      have : a = c := by
        have := congrArg List.head? e
        simpa using this
      subst this
      simp at hd
    | [], h3, _, _, _ => simp at h3
    | [_], h3, _, _, _ => simp at h3
    | [_, _], h3, _, _, _ => simp at h3
    | _ :: _ :: _ :: _ :: _, _, h4, _, _ => simp at h4
end
end LW
set_option maxRecDepth 100000
set_option autoImplicit false
/-! k03: one flow. -/
namespace LW
open PySem (Str CmpOp Operator PyData)
open WT
theorem GM.gn {m : Mdl} {a b : Nat} (g : WT.GM m a b) (ha : a ≤ 8) : GN m.nodes m.exits := ⟨g.n1, Nat.le_trans g.n2 ha, g.e1, g.e2, fun s hs => g.good s (List.mem_append_left _ hs), g.ndNE⟩
def hopsL (ns es : List Str) : List (Option Str) := ns.map some ++ es.map some ++ [none]
theorem hopsL_pv {ns es : List Str} : ns.map PV.str ++ es.map PV.str ++ [PV.non] = (hopsL ns es).map hopV := by
  unfold hopsL
  rw [List.map_append, List.map_append, List.map_map, List.map_map]
  rfl
theorem hopsL_ok {ns es : List Str} {x : Option Str} (h : x ∈ hopsL ns es) : hopOk ns es x := fun s hs => by
  subst hs
  unfold hopsL at h
  rcases List.mem_append.mp h with h | h
  · rcases List.mem_append.mp h with h | h
    · obtain ⟨t, ht, e⟩ := List.mem_map.mp h
      cases e
      exact .inl ht
    · obtain ⟨t, ht, e⟩ := List.mem_map.mp h
      cases e
      exact .inr ht
  · cases List.mem_singleton.mp h
def unhop : PV → Option Str
  | .str s => some s
  | _ => none
theorem unhop_hop (x : Option Str) : unhop (hopV x) = x := by cases x <;> rfl
theorem filt_hops {xs : List (Option Str)} {y : Option Str} : ((xs.map hopV).filter fun x => !decide (unhop x = y)).map id = (xs.filter fun x => !decide (x = y)).map hopV := by
  rw [List.map_id, List.filter_map]
  congr 1
  exact List.filter_congr fun x _ => by
    show (!decide (unhop (hopV x) = y)) = _
    rw [unhop_hop]
theorem hops_left {ns es : List Str} {y : Option Str} (he : 1 ≤ es.length) : ((hopsL ns es).filter fun x => !decide (x = y)) ≠ [] := fun e => by
  have h := List.filter_eq_nil_iff.mp e
  have h1 : y = none := by
    have := h none (by unfold hopsL; simp)
    have : none = y := by simpa using this
    exact this.symm
  match es, he with
  | a :: r, _ =>
    have := h (some a) (by unfold hopsL; simp)
    rw [h1] at this
    simp at this
theorem hopsL_len {ns es : List Str} : (hopsL ns es).length = ns.length + es.length + 1 := by unfold hopsL; simp; omega
/-- an update of one next hop -/
theorem TB.upd {ns es : List Str} {h : Str → Option Str} {kvs : List (PV × PV)} {s : Str} {x : Option Str} (t : WT.TB ns es (.dic kvs) h) (hs : s ∈ ns) (hx : hopOk ns es x) : WT.TB ns es (.dic (putKV (.str s) (hopV x) kvs)) fun t => if t = s then x else h t := by
  obtain ⟨ks, hp, e, hh⟩ := t
  cases e
  refine ⟨ks, hp, ?_, fun n hn => ?_⟩
  · rw [dicF_upd (hp.mem_iff.mpr hs)]
    congr 1
    exact List.map_congr_left fun t _ => by
      show (PV.str t, if t = s then hopV x else hopV (h t)) = (PV.str t, hopV (if t = s then x else h t))
      by_cases e : t = s
      · rw [if_pos e, if_pos e]
      · rw [if_neg e, if_neg e]
  · show hopOk ns es (if n = s then x else h n)
    by_cases e : n = s
    · rw [if_pos e]; exact hx
    · rw [if_neg e]; exact hh n hn
theorem dif_one {ns : List Str} {h : Str → Option Str} {s : Str} {x : Option Str} (hn : ns.Nodup) (hs : s ∈ ns) (hx : h s ≠ x) : difS ns h (fun t => if t = s then x else h t) = [s] := by
  have : difS ns h (fun t => if t = s then x else h t) = ns.filter fun t => decide (t = s) := by
    unfold difS
    refine List.filter_congr fun t _ => ?_
    by_cases e : t = s
    · subst e
      simp [hx]
    · simp [e]
  rw [this]
  clear this
  induction ns with
  | nil => cases hs
  | cons a l ih =>
    obtain ⟨h1, h2⟩ := List.nodup_cons.mp hn
    rw [List.filter_cons]
    by_cases e : a = s
    · subst e
      rw [decide_eq_true rfl]
      simp
      intro t ht e
      subst e
      exact h1 ht
    · rw [decide_eq_false e]
      rcases List.mem_cons.mp hs with rfl | hs
      · exact absurd rfl e
      · exact ih h2 hs
def FlwP (s t c kk : PV) (i : Nat) (m : Mdl) (M : Mem) (k : Int) (ε : Env) (N : Mem) : Prop := (∃ p8 p9 p10 p11 p12 p13, ε = [some s, some t, some c, some (.ref i), some kk, some m.pv, some (netP m.nodes m.exits), some (.lst (m.nodes.map .str)), p8, p9, p10, p11, p12, p13]) ∧ Aft i k M N
section
variable {M : Mem} {i : Nat} {k : Int} {s t c kk : PV} {m : Mdl} {f : Str} {o9 o10 o11 o12 o13 : Option PV}
set_option maxHeartbeats 1000000 in
theorem flowTurn (gm : WT.GM m 8 2) (hf : f ∈ m.fl) (hD : DS M i k) (hk : k < 2 ^ 36) : Wp (exs ⟨WT.call G 100000 39, 100000, G⟩ b27_1 [some s, some t, some c, some (.ref i), some kk, some m.pv, some (netP m.nodes m.exits), some (.lst (m.nodes.map .str)), some (.str f), o9, o10, o11, o12, o13] M) (Nx (FlwP s t c kk i m M (k + 2))) := by
  have g := GM.gn gm (Nat.le_refl _)
  have tO := gm.to f hf
  have tN := gm.tn f hf
  obtain ⟨kx, ex, gx, hx, lx⟩ := tO.get
  have hn1 := g.n1
  have hn2 := g.n2
  have he1 := g.e1
  have he2 := g.e2
  have hi := hD.lt
  have hfl : getK (.str f) (dicF m.fl fun f => .tup [m.to f, m.tn f]) = some (.tup [.dic kx, m.tn f]) := by rw [getK_dicF, if_pos hf, ex]
  rw [ex] at tO
  unfold b27_1
  generalize hQ : Nx (FlwP s t c kk i m M (k + 2)) = Q0
  simp
  rw [rp_ixD mdl_rd mdl_flows]
  simp
  rw [rp_ixD (x := m.flv) rfl hfl]
  simp
  refine rp_dictC (by omega) ?_
  simp
  have hA0 : Aft i k M (M ++ [Cell.dic kx]) := (Aft.refl hD).push
  have c0 : (M ++ [Cell.dic kx])[M.length]? = some (.dic kx) := by simp
  have l0 : M.length < (M ++ [Cell.dic kx]).length := by simp
  generalize M ++ [Cell.dic kx] = M0 at hA0 c0 l0 ⊢
  refine rp_pick (n := 37) hfd hfp hA0.ds (by omega) (by rw [List.length_map]; omega) (by rw [List.length_map]; omega) strs_lt fun v N hv hA1 hl1 => ?_
  obtain ⟨nd, hnd, rfl⟩ := List.mem_map.mp hv
  simp
  refine wp_setS ?_
  simp
  refine rp_lcP id (fun x => !decide (unhop x = m.old f nd)) ?_
  rw [rp_of, rp_bin, rp_bin, rp_locS, rp_locS, rp_locS, rp_locS, rp_locS, rp_locS, rp_locS, rp_loc0, kbin1, rp_idx, rp_locS, rp_locS, rp_locS, rp_locS, rp_locS, rp_loc0, kidx1, rp_lit, kidx2, rp_ixD mdl_rd mdl_exits, kbin2, rp_addL]
  refine ⟨by rw [List.length_map, List.length_map]; omega, ?_⟩
  rw [kbin1, rp_lst, rp_cons, rp_lit, kcons1, rp_nil, kcons2, klst, kbin2, rp_addL]
  refine ⟨by rw [List.length_append, List.length_map, List.length_map]; show _ + 1 ≤ _; omega, ?_⟩
  rw [hopsL_pv, kofL]
  have hlen := hopsL_len (ns := m.nodes) (es := m.exits)
  refine ⟨rfl, rfl, by rw [List.length_map, hlen]; unfold sline; omega, fun x hx _ => ?_, fun x hx acc => ?_, ?_⟩
  · obtain ⟨y, _, rfl⟩ := List.mem_map.mp hx
    exact hop_lt _
  · obtain ⟨y, _, rfl⟩ := List.mem_map.mp hx
    refine ⟨_, rfl, test_of ?_, fun _ => rfl⟩
    show Rp (ev _ (.cmp .NotEq (.loc 13) (.idx (.loc 9) (.loc 12))) [some s, some t, some c, some (.ref i), some kk, some m.pv, some (netP m.nodes m.exits), some (.lst (m.nodes.map .str)), some (.str f), some (.dic kx), some (m.tn f), some (.ref M.length), some (.str nd), some (hopV y)] _) _ _
    simp
    rw [rp_ixD rfl (gx nd hnd)]
    simp
    rw [rp_neH, unhop_hop]
    simp
  · rw [filt_hops]
    have hne := hops_left (ns := m.nodes) (es := m.exits) (y := m.old f nd) gm.e1
    have hlp := List.length_pos_iff.mpr hne
    have hle : ((hopsL m.nodes m.exits).filter fun x => !decide (x = m.old f nd)).length ≤ 12 := Nat.le_trans (List.length_filter_le _ _) (by omega)
    simp
    refine rp_pick (n := 37) hfd hfp hA1.ds (by omega) (by rw [List.length_map]; exact hlp) (by rw [List.length_map]; omega) (lts_of fun z hz => by
      obtain ⟨y, _, rfl⟩ := List.mem_map.mp hz
      exact hop_lt _) fun v N2 hv hA2 hl2 => ?_
    obtain ⟨y, hy, rfl⟩ := List.mem_map.mp hv
    obtain ⟨hy1, hy2⟩ := List.mem_filter.mp hy
    have hyne : m.old f nd ≠ y := fun e => by rw [e] at hy2; simp at hy2
    have hA3 := (hA0.trans hA1).trans hA2
    have c1 := hA2.at (hA1.at c0 (by omega)) (by omega)
    have lt1 := (List.getElem?_eq_some_iff.mp c1).1
    refine ⟨_, c1, by omega, ?_⟩
    have tU := TB.upd tO hnd (hopsL_ok hy1)
    have hc2 : (N2.set M.length (.dic (putKV (.str nd) (hopV y) kx)))[M.length]? = some (.dic (putKV (.str nd) (hopV y) kx)) := by rw [List.getElem?_set_self lt1]
    refine wp_ghD rfl hc2 ?_
    have hA4 := (hA3.young (c := .dic (putKV (.str nd) (hopV y) kx)) hi (Nat.le_refl M.length)).young (c := .dead) hi (Nat.le_refl M.length)
    generalize (N2.set M.length (.dic (putKV (.str nd) (hopV y) kx))).set M.length .dead = N3 at hA4
    generalize putKV (.str nd) (hopV y) kx = kn at tU
    simp
    refine Rp.of (rightCall g tO tN) ?_
    simp
    refine Rp.of (rightCall g tO tU) ?_
    simp
    refine Rp.of (tabCall g tO) ?_
    simp
    refine Rp.of (tabCall g tU) ?_
    skip
    rw [kopO2 rfl rfl rfl]
    refine Rp.of (xorCall g) ?_
    rw [dif_one g.ndN hnd hyne]
    simp
    rw [show PV.tup [PV.str nd] = .tup (([nd] : List Str).map .str) from rfl, rp_neTS (fun z hz => by rw [List.mem_singleton.mp hz]; exact (g.gN nd hnd).2) (fun z hz => by rw [List.mem_singleton.mp hz]; exact (g.gN nd hnd).2)]
    simp
    rw [rp_ixD mdl_rd mdl_exits]
    simp
    obtain ⟨es2, q1, q2, g2, q4⟩ := farCall (n := 35) (M := N3) g
    refine Rp.of q4 ?_
    simp
    have tF : WT.TB m.nodes es2 (.dic kx) (m.old f) := by
      obtain ⟨ks, hp, e, hh⟩ := tO
      exact ⟨ks, hp, e, fun n hn s hs => (hh n hn s hs).imp id fun z => q2 s z⟩
    refine Rp.of (tabCall g2 tF) ?_
    simp
    refine Rp.of (tabCall g tO) ?_
    simp
    rw [rp_eqO (c := 6) rfl rfl tab_known (eqTab (n := 37) g2 g fun s hs => ⟨fun z hz => ((hx s hs) z hz).imp id fun w => q2 z w, hx s hs⟩)]
    rw [show (decide (m.nodes = m.nodes) && decide (es2 = m.exits) && decide (∀ s ∈ m.nodes, m.old f s = m.old f s)) = false by
      rw [decide_eq_false (p := es2 = m.exits) fun e => q1 e.symm]; simp]
    rw [← hQ]
    simp
    exact ⟨⟨_, _, _, _, _, _, rfl⟩, hA4.mono (by omega)⟩
end
end LW
set_option maxRecDepth 100000
set_option autoImplicit false
/-! k03: a lap. -/
namespace LW
open PySem (Str CmpOp Operator PyData)
open WT
def LapP (s t c : PV) (i : Nat) (M : Mem) (k : Int) (ε : Env) (N : Mem) : Prop := (∃ p4 p5 p6 p7 p8 p9 p10 p11 p12 p13, ε = [some s, some t, some c, some (.ref i), p4, p5, p6, p7, p8, p9, p10, p11, p12, p13]) ∧ Aft i k M N
def FlwI (s t c kk : PV) (i : Nat) (m : Mdl) (M : Mem) (k : Int) (j : Nat) (ε : Env) (N : Mem) : Prop := FlwP s t c kk i m M (k + 2 * (j : Int)) ε N
section
variable {M : Mem} {i : Nat} {k : Int} {s t c kk : PV} {o5 o6 o7 o8 o9 o10 o11 o12 o13 : Option PV}
theorem lapRun (hD : DS M i k) (hk : k < 2 ^ 35) : Wp (exs ⟨WT.call G 100000 39, 100000, G⟩ b27_2 [some s, some t, some c, some (.ref i), some kk, o5, o6, o7, o8, o9, o10, o11, o12, o13] M) (Nx (LapP s t c i M (k + 600))) := by
  unfold b27_2
  generalize hQ : Nx (LapP s t c i M (k + 600)) = Q0
  simp
  refine Rp.use (modelRp (n := 34) (a := 8) (b := 2) hD (by omega) (by omega) (by omega) (by omega) (by omega)) ?_
  rintro v N ⟨⟨m, rfl, gm⟩, hA, hl⟩
  have g := GM.gn gm (Nat.le_refl _)
  simp
  rw [rp_ixD mdl_rd mdl_nodes]
  simp
  rw [rp_ixD mdl_rd mdl_exits]
  simp
  refine Rp.of (netCall g) ?_
  simp
  rw [rp_ixD mdl_rd mdl_nodes]
  simp
  refine wp_for (FlwI s t c kk i m M (k + 500)) ?_
  simp
  rw [rp_ixD mdl_rd mdl_flows]
  have hks : Good m.fl := gm.goodF
  show Kof _ (.dic (dicF m.fl fun f => .tup [m.to f, m.tn f])) N
  rw [kofD (dicF_fit fun s hs => hks.short s hs), dicF_keys]
  have hf2 := gm.f2
  refine ⟨rfl, ⟨⟨_, _, _, _, _, _, rfl⟩, hA.mono (by omega)⟩, ?_, ?_⟩
  · rintro j x ε N2 hj ⟨⟨p8, p9, p10, p11, p12, p13, rfl⟩, hA2⟩
    have hj : (m.fl.map PV.str)[j]? = some x := hj
    rw [List.getElem?_map] at hj
    obtain ⟨f, hf, rfl⟩ := Option.map_eq_some_iff.mp hj
    have hjl := (List.getElem?_eq_some_iff.mp hf).1
    refine ⟨_, rfl, (flowTurn gm (List.mem_of_getElem? hf) hA2.ds (by omega)).mono fun o ho => ?_⟩
    cases o with
    | nx ε3 N3 =>
      obtain ⟨⟨p8, p9, p10, p11, p12, p13, rfl⟩, hA3⟩ := ho
      exact ⟨⟨_, _, _, _, _, _, rfl⟩, (hA2.trans hA3).mono (by push_cast; omega)⟩
    | _ => exact ho.elim
  · rintro ε N2 ⟨⟨p8, p9, p10, p11, p12, p13, rfl⟩, hA2⟩
    have hA2 : Aft i (k + 500 + 2 * ((m.fl.map PV.str).length : Int)) M N2 := hA2
    rw [List.length_map] at hA2
    rw [← hQ]
    simp
    exact ⟨⟨_, _, _, _, _, _, _, _, _, _, rfl⟩, hA2.mono (by omega)⟩
end
end LW
set_option maxRecDepth 100000
set_option autoImplicit false
/-! The plain law. -/
namespace LW
open PySem (Str CmpOp Operator PyData)
open WT
def LapI (i : Nat) (M : Mem) (s t c : PV) (j : Nat) (ε' : Env) (N : Mem) : Prop := LapP s t c i M (600 * (j : Int)) ε' N
def OutI (s : PV) (_ : Nat) (ε' : Env) (_ : Mem) : Prop := ∃ p1 p2 p3 p4 p5 p6 p7 p8 p9 p10 p11 p12 p13, ε' = [some s, p1, p2, p3, p4, p5, p6, p7, p8, p9, p10, p11, p12, p13]
section
variable {M : Mem} {s : PV} {c : Int} {j : Nat} {o3 o4 o5 o6 o7 o8 o9 o10 o11 o12 o13 : Option PV}
theorem turnRun (hj : j < 64) : Wp (exs ⟨WT.call G 100000 39, 100000, G⟩ b27_3 [some s, some (.int (j : Int)), some (.int c), o3, o4, o5, o6, o7, o8, o9, o10, o11, o12, o13] M) (Nx (OutI s 0)) := by
  unfold b27_3
  simp
  refine rp_begin rfl (by omega) fun M1 hD1 => ?_
  generalize M.length = i at hD1 ⊢
  simp
  refine wp_for (LapI i M1 s (.int (j : Int)) (.int c)) ?_
  simp
  refine ⟨⟨⟨_, _, _, _, _, _, _, _, _, _, rfl⟩, .refl (by simpa using hD1)⟩, ?_, ?_⟩
  · rintro l x ε N hl ⟨⟨p4, p5, p6, p7, p8, p9, p10, p11, p12, p13, rfl⟩, hA⟩
    obtain ⟨hl1, rfl⟩ := nums_get hl
    refine ⟨_, rfl, (lapRun hA.ds (by omega)).mono fun o ho => ?_⟩
    cases o with
    | nx ε2 N2 =>
      obtain ⟨⟨p4, p5, p6, p7, p8, p9, p10, p11, p12, p13, rfl⟩, hA2⟩ := ho
      exact ⟨⟨_, _, _, _, _, _, _, _, _, _, rfl⟩, (hA.trans hA2).mono (by push_cast; omega)⟩
    | _ => exact ho.elim
  · rintro ε N ⟨⟨p4, p5, p6, p7, p8, p9, p10, p11, p12, p13, rfl⟩, hA⟩
    exact ⟨_, _, _, _, _, _, _, _, _, _, _, _, _, rfl⟩
end
theorem plain (ns : List Int) (_ : ns.length ≤ 63) : ∃ M, WT.call G 100000 40 27 [.lst (ns.map .int)] [] = .ok (.bl true) M := by
  have h : Rp (WT.call G 100000 40 27 [.lst (ns.map .int)] []) (fun v _ => v = .bl true) nev := by
    refine rp_def (d := f27) rfl rfl ?_
    show Wp (exs ⟨WT.call G 100000 39, 100000, G⟩ b27 [some (.lst (ns.map .int)), none, none, none, none, none, none, none, none, none, none, none, none, none] []) _
    unfold b27
    generalize hs : PV.lst (ns.map .int) = s
    have hms : ∃ ms : List Int, Rp (ev ⟨WT.call G 100000 39, 100000, G⟩ (.slc false (.or (.loc 0) (.lst false [(.lit (.int 5))])) (.lit .non) (.lit (.int 10))) [some s, none, none, none, none, none, none, none, none, none, none, none, none, none] []) (fun v N => v = .lst ((ms.take 10).map .int) ∧ N = []) nev := by
      rw [← hs]
      have ec : ∀ ms : List Int, cut (ms.map PV.int) none (some 10) = (ms.take 10).map .int := fun ms => by
        rw [show (10 : Int) = ((10 : Nat) : Int) from rfl, cut_take, List.map_take]
      cases ns with
      | nil =>
        refine ⟨[5], ?_⟩
        simp
        exact ec [5]
      | cons a r =>
        refine ⟨a :: r, ?_⟩
        rw [rp_slc, rp_or, rp_loc0, List.map_cons, kor_cons, kslc1, rp_lit, kslc2n, rp_lit, kslc3i, rp_slL]
        exact ⟨by rw [← List.map_cons, ec], rfl⟩
    obtain ⟨ms, hms⟩ := hms
    obtain ⟨v, N, e, rfl, rfl⟩ := hms.get
    simp
    refine wp_forE (OutI s) ?_
    refine Rp.of e ?_
    refine ⟨_, .inl rfl, fun _ _ _ _ => .inl rfl, ⟨_, _, _, _, _, _, _, _, _, _, _, _, _, rfl⟩, ?_, ?_⟩
    · rintro j x ε N hj ⟨p1, p2, p3, p4, p5, p6, p7, p8, p9, p10, p11, p12, p13, rfl⟩
      rw [List.getElem?_map] at hj
      obtain ⟨c, hc, rfl⟩ := Option.map_eq_some_iff.mp hj
      have hjl := (List.getElem?_eq_some_iff.mp hc).1
      rw [List.length_take] at hjl
      refine ⟨_, rfl, (turnRun (by omega)).mono fun o ho => ?_⟩
      cases o with
      | nx ε2 N2 =>
        obtain ⟨p1, p2, p3, p4, p5, p6, p7, p8, p9, p10, p11, p12, p13, rfl⟩ := ho
        exact ⟨_, _, _, _, _, _, _, _, _, _, _, _, _, rfl⟩
      | _ => exact ho.elim
    · rintro ε N ⟨p1, p2, p3, p4, p5, p6, p7, p8, p9, p10, p11, p12, p13, rfl⟩
      simp
  obtain ⟨v, M, e, rfl⟩ := h.get
  exact ⟨M, e⟩
end LW
set_option maxHeartbeats 2000000
set_option maxRecDepth 100000
set_option autoImplicit false
namespace LW
open PySem PySem.Spec PyProof.Rows L2 WT
abbrev rowP : Program := PySem.Challenge.pw_wayturns_k03_tables_held_against_each_ot
def top (i : Nat) : Stmt := rowP.main.body.getD i (.Pass ⟨0, 0, 0, 0⟩)
def cb (i j : Nat) : Stmt := match top i with
  | .ClassDef _ _ _ b _ _ _ _ _ _ _ => b.getD j (.Pass ⟨0, 0, 0, 0⟩)
  | _ => .Pass ⟨0, 0, 0, 0⟩
/-! BadName.__init__ -/
def e0 : DefE := { ad := adM "BadName" "__init__", name := "__init__", qual := "BadName.__init__", params := defArgs (cb 2 0), body := defBody (cb 2 0), scope := defScope (cb 2 0) }
def d0 : WT.Def := ⟨e0, ["self", "name"], ["self", "name"], f0⟩
/-! BadTable.__init__ -/
def e1 : DefE := { ad := adM "BadTable" "__init__", name := "__init__", qual := "BadTable.__init__", params := defArgs (cb 4 0), body := defBody (cb 4 0), scope := defScope (cb 4 0) }
def d1 : WT.Def := ⟨e1, ["self", "node"], ["self", "node"], f1⟩
/-! BadNode.__init__ -/
def e2 : DefE := { ad := adM "BadNode" "__init__", name := "__init__", qual := "BadNode.__init__", params := defArgs (cb 5 0), body := defBody (cb 5 0), scope := defScope (cb 5 0) }
def d2 : WT.Def := ⟨e2, ["self", "node"], ["self", "node"], f2⟩
/-! is_name -/
def e3 : DefE := { ad := adG "is_name", name := "is_name", qual := "is_name", params := defArgs (top 11), body := defBody (top 11), scope := defScope (top 11) }
def d3 : WT.Def := ⟨e3, ["value", "sign"], ["value"], f3⟩
/-! Network.__init__ -/
def e4 : DefE := { ad := adM "Network" "__init__", name := "__init__", qual := "Network.__init__", params := defArgs (cb 12 0), body := defBody (cb 12 0), scope := defScope (cb 12 0) }
def d4 : WT.Def := ⟨e4, ["self", "nodes", "exits", "seen", "name"], ["self", "nodes", "exits"], f4⟩
/-! Network.nodes -/
def e5 : DefE := { ad := adP "Network" "nodes", name := "nodes", qual := "Network.nodes", params := defArgs (cb 12 1), body := defBody (cb 12 1), scope := defScope (cb 12 1) }
def d5 : WT.Def := ⟨e5, ["self"], ["self"], f5⟩
/-! Network.exits -/
def e6 : DefE := { ad := adP "Network" "exits", name := "exits", qual := "Network.exits", params := defArgs (cb 12 2), body := defBody (cb 12 2), scope := defScope (cb 12 2) }
def d6 : WT.Def := ⟨e6, ["self"], ["self"], f6⟩
/-! Network.__eq__ -/
def e7 : DefE := { ad := adM "Network" "__eq__", name := "__eq__", qual := "Network.__eq__", params := defArgs (cb 12 3), body := defBody (cb 12 3), scope := defScope (cb 12 3) }
def d7 : WT.Def := ⟨e7, ["self", "other"], ["self", "other"], f7⟩
/-! is_node -/
def e8 : DefE := { ad := adG "is_node", name := "is_node", qual := "is_node", params := defArgs (top 13), body := defBody (top 13), scope := defScope (top 13) }
def d8 : WT.Def := ⟨e8, ["network", "value"], ["network", "value"], f8⟩
/-! is_exit -/
def e9 : DefE := { ad := adG "is_exit", name := "is_exit", qual := "is_exit", params := defArgs (top 14), body := defBody (top 14), scope := defScope (top 14) }
def d9 : WT.Def := ⟨e9, ["network", "value"], ["network", "value"], f9⟩
/-! is_hop -/
def e10 : DefE := { ad := adG "is_hop", name := "is_hop", qual := "is_hop", params := defArgs (top 15), body := defBody (top 15), scope := defScope (top 15) }
def d10 : WT.Def := ⟨e10, ["network", "value"], ["network", "value"], f10⟩
/-! Table.__init__ -/
def e11 : DefE := { ad := adM "Table" "__init__", name := "__init__", qual := "Table.__init__", params := defArgs (cb 16 0), body := defBody (cb 16 0), scope := defScope (cb 16 0) }
def d11 : WT.Def := ⟨e11, ["self", "network", "hops", "node", "key"], ["self", "network", "hops"], f11⟩
/-! Table.network -/
def e12 : DefE := { ad := adP "Table" "network", name := "network", qual := "Table.network", params := defArgs (cb 16 1), body := defBody (cb 16 1), scope := defScope (cb 16 1) }
def d12 : WT.Def := ⟨e12, ["self"], ["self"], f12⟩
/-! Table.__getitem__ -/
def e13 : DefE := { ad := adM "Table" "__getitem__", name := "__getitem__", qual := "Table.__getitem__", params := defArgs (cb 16 2), body := defBody (cb 16 2), scope := defScope (cb 16 2) }
def d13 : WT.Def := ⟨e13, ["self", "node"], ["self", "node"], f13⟩
/-! Table.__iter__ -/
def e14 : DefE := { ad := adM "Table" "__iter__", name := "__iter__", qual := "Table.__iter__", params := defArgs (cb 16 3), body := defBody (cb 16 3), scope := defScope (cb 16 3) }
def d14 : WT.Def := ⟨e14, ["self"], ["self"], f14⟩
/-! Table.__xor__ -/
def e15 : DefE := { ad := adM "Table" "__xor__", name := "__xor__", qual := "Table.__xor__", params := defArgs (cb 16 4), body := defBody (cb 16 4), scope := defScope (cb 16 4) }
def d15 : WT.Def := ⟨e15, ["self", "other", "node"], ["self", "other"], f15⟩
/-! Table.__eq__ -/
def e16 : DefE := { ad := adM "Table" "__eq__", name := "__eq__", qual := "Table.__eq__", params := defArgs (cb 16 5), body := defBody (cb 16 5), scope := defScope (cb 16 5) }
def d16 : WT.Def := ⟨e16, ["self", "other"], ["self", "other"], f16⟩
/-! _law_begin -/
def e17 : DefE := { ad := adG "_law_begin", name := "_law_begin", qual := "_law_begin", params := defArgs (top 18), body := defBody (top 18), scope := defScope (top 18) }
def d17 : WT.Def := ⟨e17, ["_law_cell", "_law_turn"], ["_law_cell", "_law_turn"], f17⟩
/-! _law_draw -/
def e18 : DefE := { ad := adG "_law_draw", name := "_law_draw", qual := "_law_draw", params := defArgs (top 19), body := defBody (top 19), scope := defScope (top 19) }
def d18 : WT.Def := ⟨e18, ["_law_state", "_law_size", "_law_found"], ["_law_state", "_law_size"], f18⟩
/-! _law_pick -/
def e19 : DefE := { ad := adG "_law_pick", name := "_law_pick", qual := "_law_pick", params := defArgs (top 20), body := defBody (top 20), scope := defScope (top 20) }
def d19 : WT.Def := ⟨e19, ["_law_state", "_law_some"], ["_law_state", "_law_some"], f19⟩
/-! _law_names -/
def e20 : DefE := { ad := adG "_law_names", name := "_law_names", qual := "_law_names", params := defArgs (top 21), body := defBody (top 21), scope := defScope (top 21) }
def d20 : WT.Def := ⟨e20, ["_law_state", "_law_many", "_law_signs", "_law_first", "_law_found", "_law_at", "_law_name", "_law_sign"], ["_law_state", "_law_many"], f20⟩
/-! _law_mixed -/
def e21 : DefE := { ad := adG "_law_mixed", name := "_law_mixed", qual := "_law_mixed", params := defArgs (top 22), body := defBody (top 22), scope := defScope (top 22) }
def d21 : WT.Def := ⟨e21, ["_law_state", "_law_some", "_law_left", "_law_found", "_law_at"], ["_law_state", "_law_some"], f21⟩
/-! _law_hop -/
def e22 : DefE := { ad := adG "_law_hop", name := "_law_hop", qual := "_law_hop", params := defArgs (top 23), body := defBody (top 23), scope := defScope (top 23) }
def d22 : WT.Def := ⟨e22, ["_law_state", "_law_later", "_law_every", "_law_way"], ["_law_state", "_law_later", "_law_every"], f22⟩
/-! _law_flow -/
def e23 : DefE := { ad := adG "_law_flow", name := "_law_flow", qual := "_law_flow", params := defArgs (top 24), body := defBody (top 24), scope := defScope (top 24) }
def d23 : WT.Def := ⟨e23, ["_law_state", "_law_nodes", "_law_exits", "_law_first", "_law_second", "_law_old", "_law_new", "_law_at", "_law_node", "_law_hop_here"], ["_law_state", "_law_nodes", "_law_exits"], f23⟩
/-! _law_model -/
def e24 : DefE := { ad := adG "_law_model", name := "_law_model", qual := "_law_model", params := defArgs (top 25), body := defBody (top 25), scope := defScope (top 25) }
def d24 : WT.Def := ⟨e24, ["_law_state", "_law_most", "_law_flows", "_law_many", "_law_ways", "_law_lots", "_law_names_here", "_law_nodes", "_law_exits", "_law_found", "_law_flow_here"], ["_law_state", "_law_most", "_law_flows"], f24⟩
/-! _law_right -/
def e25 : DefE := { ad := adG "_law_right", name := "_law_right", qual := "_law_right", params := defArgs (top 26), body := defBody (top 26), scope := defScope (top 26) }
def d25 : WT.Def := ⟨e25, ["_law_network", "_law_nodes", "_law_one", "_law_other", "_law_first", "_law_second", "_law_due", "_law_told", "_law_node"], ["_law_network", "_law_nodes", "_law_one", "_law_other"], f25⟩
/-! _law_far -/
def e26 : DefE := { ad := adG "_law_far", name := "_law_far", qual := "_law_far", params := defArgs (top 27), body := defBody (top 27), scope := defScope (top 27) }
def d26 : WT.Def := ⟨e26, ["_law_nodes", "_law_outs", "_law_fresh", "_law_name", "_law_sign"], ["_law_nodes", "_law_outs"], f26⟩
/-! law -/
def e27 : DefE := { ad := adG "law", name := "law", qual := "law", params := defArgs (top 28), body := defBody (top 28), scope := defScope (top 28) }
def d27 : WT.Def := ⟨e27, ["_law_script", "_law_turn", "_law_cell", "_law_state", "_law_k", "_law_model_here", "_law_network", "_law_nodes", "_law_flow_here", "_law_old", "_law_new", "_law_near", "_law_node", "_law_one"], ["_law_script"], f27⟩
def T : Tb where
  G := G
  w := 100000
  nms := ["name", "own_nodes", "own_exits", "nodes", "exits", "node", "own_network", "hops", "__xor__", "__getitem__", "network", "__eq__", "__iter__"]
  cns := ["WayError", "BadName", "BadNetwork", "BadTable", "BadNode", "Network", "Table"]
  defs := (([d0, d1, d2, d3, d4, d5, d6, d7, d8, d9, d10, d11, d12, d13, d14, d15, d16, d17, d18, d19, d20, d21, d22, d23, d24] : List WT.Def) ++ ([d25, d26, d27] : List WT.Def))
  glos := ["BadNetwork", "is_name", "BadName", "Network", "is_node", "is_exit", "BadTable", "is_hop", "BadNode", "Table", "_law_draw", "_law_pick", "_law_mixed", "_law_hop", "_law_names", "_law_flow", "_law_begin", "_law_model", "_law_right", "_law_far", "WayError", "law"]
  frees := ["str", "isinstance", "len", "list", "tuple", "dict", "max", "int", "range", "enumerate"]
  cInt := [("MOST_SIGNS", 6), ("MOST_NODES", 8), ("MOST_EXITS", 3)]
  cStr := [("LETTERS", "abcdefghijklmnopqrstuvwxyz")]
  own := [5, 6]
  mks := [(5, 4), (6, 11)]
  xm := [0, 2]
  xv := [(1, 0), (3, 1), (4, 2)]
section
variable {P : Program} {w : World} {K : PySem.W.Frag} {mg : Str → Option Value} {base : Heap}
theorem bd3 (n : Nat) : BodyOk T P w K mg base n d3 := fun f cdv A outer s H E F => (y_cons (s_if (PW.pt (st_or (st_not (xt_p F (x_isi F 1 (x_loc 0) (x_bty F 0)))) (pw_or1 (st_not (xt_chn F se_int (x_bf F 2 false (b_len F.K) (x_cons (x_loc 0) x_nil)) (x_cint F 0)))))) (y_cons (s_ret se_bl)
 y_nil) y_nil)
 (y_cons (s_ret (x_cmp F (x_lc F false [("sign", 1)] (z_of F (x_loc 0)) (fun _ _ _ _ _ => (g_nm F.blk 1)) (fun _ _ _ _ _ => (pts1 (xt_cmp F.blk (x_loc 1) (x_cstr F.blk 0)))) (fun _ _ _ _ _ => (x_loc 1)) (ok := (by decide +kernel : blkC d3.N e3.scope _ _ = true))) (x_lst false x_nil)))
 y_nil))
theorem ok3 : DefOk T P w K mg base 3 d3 := ⟨rfl, ⟨rfl, rfl, rfl, by decide +kernel, rfl, by decide +kernel, by decide +kernel⟩, rfl, rfl, bd3⟩
theorem bd4 (n : Nat) : BodyOk T P w K mg base n d4 := fun f cdv A outer s H E F => (y_cons (s_if (PW.pt (st_or (st_not (xt_p F (x_isiT F 1 (x_loc 1) (x_tup (x_cons (x_bty F 3) (x_cons (x_bty F 4) x_nil)))))) (pw_or1 (st_not (xt_p F (x_isiT F 1 (x_loc 2) (x_tup (x_cons (x_bty F 3) (x_cons (x_bty F 4) x_nil))))))))) (y_cons (y_raisM F 0 1 2 x_str)
 y_nil) y_nil)
 (y_cons (y_set F 3 (x_lst true x_nil))
 (y_cons (y_for F (z_of F (x_bin F false (x_bt F 3 false (b_list F.K F.calm) (x_cons (x_loc 1) x_nil)) (x_bt F 3 false (b_list F.K F.calm) (x_cons (x_loc 2) x_nil)))) (g_nm F 4) (y_cons (s_if (PW.pt (st_or (st_not (xt_p F (x_fn F 1 3 (x_ca (x_cons (x_loc 4) x_nil))))) (pw_or1 (xt_cmp F (x_loc 4) (x_loc 3))))) (y_cons (y_raisV F 2 0 1 0 0 (x_loc 4))
 y_nil) y_nil)
 (y_cons (y_expr (xm_append F false (x_loc 3) (x_cons (x_loc 4) x_nil)))
 y_nil)))
 (y_cons (s_if (PW.pt (st_or (st_not (xt_chn F se_int (x_bf F 2 false (b_len F.K) (x_cons (x_loc 1) x_nil)) (x_cint F 1))) (pw_or1 (st_not (xt_chn F se_int (x_bf F 2 false (b_len F.K) (x_cons (x_loc 2) x_nil)) (x_cint F 2)))))) (y_cons (y_raisM F 0 1 2 x_str)
 y_nil) y_nil)
 (y_cons (y_setf F 1 (x_loc 0) (x_bt F 4 false (b_tuple F.K) (x_cons (x_loc 1) x_nil)))
 (y_cons (y_setf F 2 (x_loc 0) (x_bt F 4 false (b_tuple F.K) (x_cons (x_loc 2) x_nil)))
 y_nil))))))
theorem ok4 : DefOk T P w K mg base 4 d4 := ⟨rfl, ⟨rfl, rfl, rfl, by decide +kernel, rfl, by decide +kernel, by decide +kernel⟩, rfl, rfl, bd4⟩
theorem bd5 (n : Nat) : BodyOk T P w K mg base n d5 := fun f cdv A outer s H E F => (y_cons (s_ret (x_fld F 1 (x_loc 0)))
 y_nil)
theorem ok5 : DefOk T P w K mg base 5 d5 := ⟨rfl, ⟨rfl, rfl, rfl, by decide +kernel, rfl, by decide +kernel, by decide +kernel⟩, rfl, rfl, bd5⟩
theorem bd6 (n : Nat) : BodyOk T P w K mg base n d6 := fun f cdv A outer s H E F => (y_cons (s_ret (x_fld F 2 (x_loc 0)))
 y_nil)
theorem ok6 : DefOk T P w K mg base 6 d6 := ⟨rfl, ⟨rfl, rfl, rfl, by decide +kernel, rfl, by decide +kernel, by decide +kernel⟩, rfl, rfl, bd6⟩
theorem bd7 (n : Nat) : BodyOk T P w K mg base n d7 := fun f cdv A outer s H E F => (y_cons (s_if (st_not (xt_p F (x_isi F 1 (x_loc 1) (x_cls F 3 5)))) (y_cons (s_ret se_bl)
 y_nil) y_nil)
 (y_cons (s_ret (x_and F (x_cmp F (x_fld F 1 (x_loc 0)) (x_fld F 1 (x_loc 1))) (pe_one (x_cmp F (x_fld F 2 (x_loc 0)) (x_fld F 2 (x_loc 1))))))
 y_nil))
theorem ok7 : DefOk T P w K mg base 7 d7 := ⟨rfl, ⟨rfl, rfl, rfl, by decide +kernel, rfl, by decide +kernel, by decide +kernel⟩, rfl, rfl, bd7⟩
theorem bd8 (n : Nat) : BodyOk T P w K mg base n d8 := fun f cdv A outer s H E F => (y_cons (s_ret (x_and F (x_isi F 1 (x_loc 1) (x_bty F 0)) (pe_one (x_cmp F (x_loc 1) (x_fld F 3 (x_loc 0))))))
 y_nil)
theorem ok8 : DefOk T P w K mg base 8 d8 := ⟨rfl, ⟨rfl, rfl, rfl, by decide +kernel, rfl, by decide +kernel, by decide +kernel⟩, rfl, rfl, bd8⟩
theorem bd9 (n : Nat) : BodyOk T P w K mg base n d9 := fun f cdv A outer s H E F => (y_cons (s_ret (x_and F (x_isi F 1 (x_loc 1) (x_bty F 0)) (pe_one (x_cmp F (x_loc 1) (x_fld F 4 (x_loc 0))))))
 y_nil)
theorem ok9 : DefOk T P w K mg base 9 d9 := ⟨rfl, ⟨rfl, rfl, rfl, by decide +kernel, rfl, by decide +kernel, by decide +kernel⟩, rfl, rfl, bd9⟩
theorem bd10 (n : Nat) : BodyOk T P w K mg base n d10 := fun f cdv A outer s H E F => (y_cons (s_ret (x_or F (x_cmp F (x_loc 1) se_none) (x_or F (x_fn F 4 8 (x_ca (x_cons (x_loc 0) (x_cons (x_loc 1) x_nil)))) (pe_one (x_fn F 5 9 (x_ca (x_cons (x_loc 0) (x_cons (x_loc 1) x_nil))))))))
 y_nil)
theorem ok10 : DefOk T P w K mg base 10 d10 := ⟨rfl, ⟨rfl, rfl, rfl, by decide +kernel, rfl, by decide +kernel, by decide +kernel⟩, rfl, rfl, bd10⟩
theorem bd11 (n : Nat) : BodyOk T P w K mg base n d11 := fun f cdv A outer s H E F => (y_cons (s_if (st_not (xt_p F (x_isi F 1 (x_loc 2) (x_bty F 5)))) (y_cons (y_raisV F 6 1 3 1 5 se_none)
 y_nil) y_nil)
 (y_cons (y_for F (z_of F (x_fld F 3 (x_loc 1))) (g_nm F 3) (y_cons (s_if (PW.pt (st_or (xt_cmp F (x_loc 3) (x_loc 2)) (pw_or1 (st_not (xt_p F (x_fn F 7 10 (x_ca (x_cons (x_loc 1) (x_cons (x_idx F (x_loc 2) (x_loc 3)) x_nil))))))))) (y_cons (y_raisV F 6 1 3 1 5 (x_loc 3))
 y_nil) y_nil)
 y_nil))
 (y_cons (y_for F (z_of F (x_loc 2)) (g_nm F 4) (y_cons (s_if (st_not (xt_p F (x_fn F 4 8 (x_ca (x_cons (x_loc 1) (x_cons (x_loc 4) x_nil)))))) (y_cons (y_raisV F 6 1 3 1 5 (x_loc 4))
 y_nil) y_nil)
 y_nil))
 (y_cons (y_setf F 6 (x_loc 0) (x_loc 1))
 (y_cons (y_setf F 7 (x_loc 0) (x_dcm F false [("node", 3)] (z_of F (x_fld F 3 (x_loc 1))) (fun _ _ _ _ _ => (g_nm F.blk 3)) (fun _ _ _ _ _ => (x_loc 3)) (fun _ _ _ _ _ => (x_idx F.blk (x_loc 2) (x_loc 3))) (ok := (by decide +kernel : blkC d11.N e11.scope _ _ = true))))
 y_nil)))))
theorem ok11 : DefOk T P w K mg base 11 d11 := ⟨rfl, ⟨rfl, rfl, rfl, by decide +kernel, rfl, by decide +kernel, by decide +kernel⟩, rfl, rfl, bd11⟩
theorem bd12 (n : Nat) : BodyOk T P w K mg base n d12 := fun f cdv A outer s H E F => (y_cons (s_ret (x_fld F 6 (x_loc 0)))
 y_nil)
theorem ok12 : DefOk T P w K mg base 12 d12 := ⟨rfl, ⟨rfl, rfl, rfl, by decide +kernel, rfl, by decide +kernel, by decide +kernel⟩, rfl, rfl, bd12⟩
theorem bd13 (n : Nat) : BodyOk T P w K mg base n d13 := fun f cdv A outer s H E F => (y_cons (s_if (st_not (xt_p F (x_fn F 4 8 (x_ca (x_cons (x_fld F 6 (x_loc 0)) (x_cons (x_loc 1) x_nil)))))) (y_cons (y_raisV F 8 2 4 2 5 (x_loc 1))
 y_nil) y_nil)
 (y_cons (s_ret (x_idx F (x_fld F 7 (x_loc 0)) (x_loc 1)))
 y_nil))
theorem ok13 : DefOk T P w K mg base 13 d13 := ⟨rfl, ⟨rfl, rfl, rfl, by decide +kernel, rfl, by decide +kernel, by decide +kernel⟩, rfl, rfl, bd13⟩
theorem bd14 (n : Nat) : BodyOk T P w K mg base n d14 := fun f cdv A outer s H E F => (y_cons y_no
 y_nil)
theorem ok14 : DefOk T P w K mg base 14 d14 := ⟨rfl, ⟨rfl, rfl, rfl, by decide +kernel, rfl, by decide +kernel, by decide +kernel⟩, rfl, rfl, bd14⟩
theorem bd15 (n : Nat) : BodyOk T P w K mg base n d15 := fun f cdv A outer s H E F => (y_cons (s_if (st_not (xt_p F (x_isi F 1 (x_loc 1) (x_cls F 9 6)))) (y_cons y_no
 y_nil) y_nil)
 (y_cons (s_ret (x_bt F 4 false (b_tuple F.K) (x_cons (x_lc F false [("node", 2)] (z_of F (x_fld F 3 (x_fld F 6 (x_loc 0)))) (fun _ _ _ _ _ => (g_nm F.blk 2)) (fun _ _ _ _ _ => (pts1 (xt_cmp F.blk (x_idx F.blk (x_fld F.blk 7 (x_loc 0)) (x_loc 2)) (x_idx F.blk (x_fld F.blk 7 (x_loc 1)) (x_loc 2))))) (fun _ _ _ _ _ => (x_loc 2)) (ok := (by decide +kernel : blkC d15.N e15.scope _ _ = true))) x_nil)))
 y_nil))
theorem ok15 : DefOk T P w K mg base 15 d15 := ⟨rfl, ⟨rfl, rfl, rfl, by decide +kernel, rfl, by decide +kernel, by decide +kernel⟩, rfl, rfl, bd15⟩
theorem bd16 (n : Nat) : BodyOk T P w K mg base n d16 := fun f cdv A outer s H E F => (y_cons (s_if (st_not (xt_p F (x_isi F 1 (x_loc 1) (x_cls F 9 6)))) (y_cons (s_ret se_bl)
 y_nil) y_nil)
 (y_cons (s_ret (x_and F (x_cmp F (x_fld F 6 (x_loc 0)) (x_fld F 6 (x_loc 1))) (pe_one (x_cmp F (x_fld F 7 (x_loc 0)) (x_fld F 7 (x_loc 1))))))
 y_nil))
theorem ok16 : DefOk T P w K mg base 16 d16 := ⟨rfl, ⟨rfl, rfl, rfl, by decide +kernel, rfl, by decide +kernel, by decide +kernel⟩, rfl, rfl, bd16⟩
theorem bd17 (n : Nat) : BodyOk T P w K mg base n d17 := fun f cdv A outer s H E F => (y_cons (s_ret (x_lst true (x_cons (x_bf F 6 false (b_max F.calm) (x_cons se_int (x_cons (x_bin F false (x_loc 0) (x_bin F false se_int se_int)) x_nil))) (x_cons (x_bin F false (x_loc 0) (x_bin F false se_int (x_loc 1))) (x_cons se_int x_nil)))))
 y_nil)
theorem ok17 : DefOk T P w K mg base 17 d17 := ⟨rfl, ⟨rfl, rfl, rfl, by decide +kernel, rfl, by decide +kernel, by decide +kernel⟩, rfl, rfl, bd17⟩
theorem bd18 (n : Nat) : BodyOk T P w K mg base n d18 := fun f cdv A outer s H E F => (y_cons (s_if (xt_cmp F (x_idx F (x_loc 0) se_int) se_int) (y_cons (y_set F 2 (x_bin F false (x_bt F 7 false (b_int) (x_cons (x_idx F (x_loc 0) se_int) x_nil)) (x_loc 1)))
 (y_cons (y_seti F (x_loc 0) se_int (x_bin F false (x_idx F (x_loc 0) se_int) (x_loc 1)))
 (y_cons (s_ret (x_loc 2))
 y_nil))) y_nil)
 (y_cons (y_seti F (x_loc 0) se_int (x_bin F false (x_idx F (x_loc 0) se_int) se_int))
 (y_cons (y_set F 2 (x_bin F false (x_bin F false (x_bt F 7 false (b_int) (x_cons (x_idx F (x_loc 0) se_int) x_nil)) se_int) (x_bin F false se_int (x_idx F (x_loc 0) se_int))))
 (y_cons (y_set F 2 (x_bin F false (x_loc 2) (x_bin F false (x_bin F false (x_bin F false (x_bt F 7 false (b_int) (x_cons (x_idx F (x_loc 0) se_int) x_nil)) se_int) (x_bin F false (x_bin F false se_int (x_idx F (x_loc 0) se_int)) (x_idx F (x_loc 0) se_int))) se_int)))
 (y_cons (s_ret (x_bin F false (x_bt F 7 false (b_int) (x_cons (x_bin F false (x_bin F false (x_bt F 7 false (b_int) (x_cons (x_bin F false (x_loc 2) se_int) x_nil)) se_int) se_int) x_nil)) (x_loc 1)))
 y_nil)))))
theorem ok18 : DefOk T P w K mg base 18 d18 := ⟨rfl, ⟨rfl, rfl, rfl, by decide +kernel, rfl, by decide +kernel, by decide +kernel⟩, rfl, rfl, bd18⟩
theorem bd19 (n : Nat) : BodyOk T P w K mg base n d19 := fun f cdv A outer s H E F => (y_cons (s_ret (x_idx F (x_loc 1) (x_fn F 10 18 (x_ca (x_cons (x_loc 0) (x_cons (x_bf F 2 false (b_len F.K) (x_cons (x_loc 1) x_nil)) x_nil))))))
 y_nil)
theorem ok19 : DefOk T P w K mg base 19 d19 := ⟨rfl, ⟨rfl, rfl, rfl, by decide +kernel, rfl, by decide +kernel, by decide +kernel⟩, rfl, rfl, bd19⟩
theorem bd20 (n : Nat) : BodyOk T P w K mg base n d20 := fun f cdv A outer s H E F => (y_cons (y_asg (x_tup (x_cons x_str (x_cons (x_fn F 10 18 (x_ca (x_cons (x_loc 0) (x_cons se_int x_nil)))) x_nil))) (g_tup F (g_cons (g_nm F 2) (g_cons (g_nm F 3) g_nil))))
 (y_cons (y_set F 4 (x_lst true x_nil))
 (y_cons (y_for F (z_r1 F 8 (x_loc 1)) (g_nm F 5) (y_cons (y_set F 6 (xm_join F false x_str (x_cons (x_lc F false [("_law_sign", 7)] (z_r1 F 8 (x_fn F 10 18 (x_ca (x_cons (x_loc 0) (x_cons se_int x_nil))))) (fun _ _ _ _ _ => (g_nm F.blk 7)) (fun _ _ _ _ _ => pts0) (fun _ _ _ _ _ => (x_fn F.blk 11 19 (x_ca (x_cons (x_loc 0) (x_cons (x_loc 2) x_nil))))) (ok := (by decide +kernel : blkC d20.N e20.scope _ _ = true))) x_nil)))
 (y_cons (y_expr (xm_append F false (x_loc 4) (x_cons (x_bin F false (x_loc 6) (x_idx F (x_loc 2) (x_bin F false (x_bt F 7 false (b_int) (x_cons (x_bin F false (x_loc 3) (x_bin F false se_int (x_loc 5))) x_nil)) se_int))) x_nil)))
 y_nil)))
 (y_cons (y_gh 4 (s_ret (x_loc 4)))
 y_nil))))
theorem ok20 : DefOk T P w K mg base 20 d20 := ⟨rfl, ⟨rfl, rfl, rfl, by decide +kernel, rfl, by decide +kernel, by decide +kernel⟩, rfl, rfl, bd20⟩
theorem bd21 (n : Nat) : BodyOk T P w K mg base n d21 := fun f cdv A outer s H E F => (y_cons (y_par F 2 3 (x_cons (x_bt F 3 false (b_list F.K F.calm) (x_cons (x_loc 1) x_nil)) (x_cons (x_lst true x_nil) x_nil)))
 (y_cons (y_whl F (xt_cmp F (x_loc 2) (x_lst false x_nil)) (y_cons (y_set F 4 (x_fn F 10 18 (x_ca (x_cons (x_loc 0) (x_cons (x_bf F 2 false (b_len F.K) (x_cons (x_loc 2) x_nil)) x_nil)))))
 (y_cons (y_expr (xm_append F false (x_loc 3) (x_cons (x_idx F (x_loc 2) (x_loc 4)) x_nil)))
 (y_cons (y_set F 2 (x_bin F false (x_slc F false (x_loc 2) Bd.none (Bd.some (x_loc 4))) (x_slc F false (x_loc 2) (Bd.some (x_bin F false (x_loc 4) se_int)) Bd.none)))
 y_nil))))
 (y_cons (y_gh 3 (s_ret (x_loc 3)))
 y_nil)))
theorem ok21 : DefOk T P w K mg base 21 d21 := ⟨rfl, ⟨rfl, rfl, rfl, by decide +kernel, rfl, by decide +kernel, by decide +kernel⟩, rfl, rfl, bd21⟩
theorem bd22 (n : Nat) : BodyOk T P w K mg base n d22 := fun f cdv A outer s H E F => (y_cons (y_set F 3 (x_fn F 10 18 (x_ca (x_cons (x_loc 0) (x_cons se_int x_nil)))))
 (y_cons (s_if (xt_cmp F (x_loc 3) se_int) (y_cons (s_ret se_none)
 y_nil) y_nil)
 (y_cons (s_ret (x_fn F 11 19 (x_ca (x_cons (x_loc 0) (x_cons (se_ife (xt_cmp F (x_loc 3) se_int) (x_loc 2) (x_loc 1)) x_nil)))))
 y_nil)))
theorem ok22 : DefOk T P w K mg base 22 d22 := ⟨rfl, ⟨rfl, rfl, rfl, by decide +kernel, rfl, by decide +kernel, by decide +kernel⟩, rfl, rfl, bd22⟩
theorem bd23 (n : Nat) : BodyOk T P w K mg base n d23 := fun f cdv A outer s H E F => (y_cons (y_par F 3 4 (x_cons (x_fn F 12 21 (x_ca (x_cons (x_loc 0) (x_cons (x_loc 1) x_nil)))) (x_cons (x_fn F 12 21 (x_ca (x_cons (x_loc 0) (x_cons (x_loc 1) x_nil)))) x_nil)))
 (y_cons (y_par F 5 6 (x_cons se_dic0 (x_cons se_dic0 x_nil)))
 (y_cons (y_for F (z_en2 F 9 (x_loc 3)) (g_tup F (g_cons (g_nm F 7) (g_cons (g_nm F 8) g_nil))) (y_cons (y_seti F (x_loc 5) (x_loc 8) (x_fn F 13 22 (x_ca (x_cons (x_loc 0) (x_cons (x_bin F false (x_bin F false (x_slc F false (x_loc 3) (Bd.some (x_bin F false (x_loc 7) se_int)) Bd.none) se_int) (x_loc 2)) (x_cons (x_bin F false (x_loc 1) (x_loc 2)) x_nil))))))
 y_nil))
 (y_cons (y_gh 5 (y_for F (z_en2 F 9 (x_loc 4)) (g_tup F (g_cons (g_nm F 7) (g_cons (g_nm F 8) g_nil))) (y_cons (y_set F 9 (x_fn F 13 22 (x_ca (x_cons (x_loc 0) (x_cons (x_bin F false (x_bin F false (x_slc F false (x_loc 4) (Bd.some (x_bin F false (x_loc 7) se_int)) Bd.none) se_int) (x_loc 2)) (x_cons (x_bin F false (x_loc 1) (x_loc 2)) x_nil))))))
 (y_cons (y_seti F (x_loc 6) (x_loc 8) (se_ife (xt_cmp F (x_fn F 10 18 (x_ca (x_cons (x_loc 0) (x_cons se_int x_nil)))) se_int) (x_loc 9) (x_idx F (x_loc 5) (x_loc 8))))
 y_nil))))
 (y_cons (y_gh 6 (s_ret (x_tup (x_cons (x_loc 5) (x_cons (x_loc 6) x_nil)))))
 y_nil)))))
theorem ok23 : DefOk T P w K mg base 23 d23 := ⟨rfl, ⟨rfl, rfl, rfl, by decide +kernel, rfl, by decide +kernel, by decide +kernel⟩, rfl, rfl, bd23⟩
theorem bd24 (n : Nat) : BodyOk T P w K mg base n d24 := fun f cdv A outer s H E F => (y_cons (y_par3 F 3 4 5 (x_cons (x_bin F false se_int (x_fn F 10 18 (x_ca (x_cons (x_loc 0) (x_cons (x_loc 1) x_nil))))) (x_cons (x_bin F false se_int (x_fn F 10 18 (x_ca (x_cons (x_loc 0) (x_cons se_int x_nil))))) (x_cons (x_bin F false se_int (x_fn F 10 18 (x_ca (x_cons (x_loc 0) (x_cons (x_loc 2) x_nil))))) x_nil))))
 (y_cons (y_set F 6 (x_fn F 14 20 (x_ca (x_cons (x_loc 0) (x_cons (x_bin F false (x_bin F false (x_loc 3) (x_loc 4)) (x_loc 5)) x_nil)))))
 (y_cons (y_par F 7 8 (x_cons (x_slc F false (x_loc 6) Bd.none (Bd.some (x_loc 3))) (x_cons (x_slc F false (x_loc 6) (Bd.some (x_loc 3)) (Bd.some (x_bin F false (x_loc 3) (x_loc 4)))) x_nil)))
 (y_cons (y_set F 9 se_dic0)
 (y_cons (y_for F (z_of F (x_slc F false (x_loc 6) (Bd.some (x_bin F false (x_loc 3) (x_loc 4))) Bd.none)) (g_nm F 10) (y_cons (y_seti F (x_loc 9) (x_loc 10) (x_fn F 15 23 (x_ca (x_cons (x_loc 0) (x_cons (x_loc 7) (x_cons (x_loc 8) x_nil))))))
 y_nil))
 (y_cons (y_gh 9 (s_ret (x_dic false (ppC x_str (x_loc 7) (ppC x_str (x_loc 8) (ppC x_str (x_loc 9) ppN))))))
 y_nil))))))
theorem ok24 : DefOk T P w K mg base 24 d24 := ⟨rfl, ⟨rfl, rfl, rfl, by decide +kernel, rfl, by decide +kernel, by decide +kernel⟩, rfl, rfl, bd24⟩
theorem bd25 (n : Nat) : BodyOk T P w K mg base n d25 := fun f cdv A outer s H E F => (y_cons (y_asg (x_tup (x_cons (x_new F 9 1 29 (x_ca (x_cons (x_loc 0) (x_cons (x_loc 2) x_nil)))) (x_cons (x_new F 9 1 29 (x_ca (x_cons (x_loc 0) (x_cons (x_loc 3) x_nil)))) x_nil))) (g_tup F (g_cons (g_nm F 4) (g_cons (g_nm F 5) g_nil))))
 (y_cons (y_set F 6 (x_bt F 4 false (b_tuple F.K) (x_cons (x_lc F false [("_law_node", 8)] (z_of F (x_loc 1)) (fun _ _ _ _ _ => (g_nm F.blk 8)) (fun _ _ _ _ _ => (pts1 (xt_cmp F.blk (x_idx F.blk (x_loc 2) (x_loc 8)) (x_idx F.blk (x_loc 3) (x_loc 8))))) (fun _ _ _ _ _ => (x_loc 8)) (ok := (by decide +kernel : blkC d25.N e25.scope _ _ = true))) x_nil)))
 (y_cons (y_for F (z_of F (x_tup (x_cons (x_opO F 8 "__xor__" (x_loc 4) (x_loc 5)) (x_cons (x_opO F 8 "__xor__" (x_loc 5) (x_loc 4)) x_nil)))) (g_nm F 7) (y_cons (s_if (PW.pt (st_or (st_not (xt_p F (x_isi F 1 (x_loc 7) (x_bty F 4)))) (pw_or1 (xt_cmp F (x_loc 7) (x_loc 6))))) (y_cons (s_ret se_bl)
 y_nil) y_nil)
 y_nil))
 (y_cons (s_if (PW.pt (st_or (xt_cmp F (x_cmp F (x_loc 4) (x_loc 5)) (x_cmp F (x_loc 6) (x_tup x_nil))) (pw_or1 (xt_cmp F (x_cmp F (x_loc 4) (x_loc 5)) (x_cmp F (x_loc 6) (x_tup x_nil)))))) (y_cons (s_ret se_bl)
 y_nil) y_nil)
 (y_cons (s_ret (x_and F (x_cmp F (x_lc F false [("_law_node", 8)] (z_of F (x_loc 1)) (fun _ _ _ _ _ => (g_nm F.blk 8)) (fun _ _ _ _ _ => pts0) (fun _ _ _ _ _ => (x_idxO F.blk 9 (x_loc 4) (x_loc 8))) (ok := (by decide +kernel : blkC d25.N e25.scope _ _ = true))) (x_lc F false [("_law_node", 8)] (z_of F (x_loc 1)) (fun _ _ _ _ _ => (g_nm F.blk 8)) (fun _ _ _ _ _ => pts0) (fun _ _ _ _ _ => (x_idx F.blk (x_loc 2) (x_loc 8))) (ok := (by decide +kernel : blkC d25.N e25.scope _ _ = true)))) (pe_one (x_cmp F (x_opO F 8 "__xor__" (x_loc 4) (x_loc 4)) (x_tup x_nil)))))
 y_nil)))))
theorem ok25 : DefOk T P w K mg base 25 d25 := ⟨rfl, ⟨rfl, rfl, rfl, by decide +kernel, rfl, by decide +kernel, by decide +kernel⟩, rfl, rfl, bd25⟩
theorem bd26 (n : Nat) : BodyOk T P w K mg base n d26 := fun f cdv A outer s H E F => (y_cons (y_set F 2 (x_idx F (x_lc F false [("_law_name", 3)] (z_of F (x_lc F false [("_law_sign", 4)] (z_of F x_str) (fun _ _ _ _ _ => (g_nm F.blk 4)) (fun _ _ _ _ _ => pts0) (fun _ _ _ _ _ => (x_bin F.blk false x_str (x_loc 4))) (ok := (by decide +kernel : blkC d26.N e26.scope _ _ = true)))) (fun _ _ _ _ _ => (g_nm F.blk 3)) (fun _ _ _ _ _ => (pts1 (xt_cmp F.blk (x_loc 3) (x_bin F.blk false (x_loc 0) (x_loc 1))))) (fun _ _ _ _ _ => (x_loc 3)) (ok := (by decide +kernel : blkC d26.N e26.scope _ _ = true))) se_int))
 (y_cons (s_ret (se_ife (xt_cmp F (x_bf F 2 false (b_len F.K) (x_cons (x_loc 1) x_nil)) se_int) (x_new F 3 0 28 (x_ca (x_cons (x_loc 0) (x_cons (x_bin F false (x_loc 1) (x_lst false (x_cons (x_loc 2) x_nil))) x_nil)))) (x_new F 3 0 28 (x_ca (x_cons (x_loc 0) (x_cons (x_rev F false (x_loc 1)) x_nil))))))
 y_nil))
theorem ok26 : DefOk T P w K mg base 26 d26 := ⟨rfl, ⟨rfl, rfl, rfl, by decide +kernel, rfl, by decide +kernel, by decide +kernel⟩, rfl, rfl, bd26⟩
theorem bd27 (n : Nat) : BodyOk T P w K mg base n d27 := fun f cdv A outer s H E F => (y_cons (y_for F (z_en2 F 9 (x_slc F false (x_or F (x_loc 0) (pe_one (x_lst false (x_cons se_int x_nil)))) Bd.none (Bd.some se_int))) (g_tup F (g_cons (g_nm F 1) (g_cons (g_nm F 2) g_nil))) (y_cons (y_set F 3 (x_fn F 16 17 (x_ca (x_cons (x_loc 2) (x_cons (x_loc 1) x_nil)))))
 (y_cons (y_for F (z_r1 F 8 se_int) (g_nm F 4) (y_cons (y_set F 5 (x_fn F 17 24 (x_ca (x_cons (x_loc 3) (x_cons se_int (x_cons se_int x_nil))))))
 (y_cons (y_par F 6 7 (x_cons (x_new F 3 0 28 (x_ca (x_cons (x_idx F (x_loc 5) x_str) (x_cons (x_idx F (x_loc 5) x_str) x_nil)))) (x_cons (x_idx F (x_loc 5) x_str) x_nil)))
 (y_cons (y_for F (z_of F (x_idx F (x_loc 5) x_str)) (g_nm F 8) (y_cons (y_asg (x_idx F (x_idx F (x_loc 5) x_str) (x_loc 8)) (g_tup F (g_cons (g_nm F 9) (g_cons (g_nm F 10) g_nil))))
 (y_cons (y_asg (x_tup (x_cons (x_bt F 5 true (b_dict F.K F.calm) (x_cons (x_loc 9) x_nil)) (x_cons (x_fn F 11 19 (x_ca (x_cons (x_loc 3) (x_cons (x_loc 7) x_nil)))) x_nil))) (g_tup F (g_cons (g_nm F 11) (g_cons (g_nm F 12) g_nil))))
 (y_cons (y_seti F (x_loc 11) (x_loc 12) (x_fn F 11 19 (x_ca (x_cons (x_loc 3) (x_cons (x_lc F false [("_law_one", 13)] (z_of F (x_bin F false (x_bin F false (x_loc 7) (x_idx F (x_loc 5) x_str)) (x_lst false (x_cons se_none x_nil)))) (fun _ _ _ _ _ => (g_nm F.blk 13)) (fun _ _ _ _ _ => (pts1 (xt_cmp F.blk (x_loc 13) (x_idx F.blk (x_loc 9) (x_loc 12))))) (fun _ _ _ _ _ => (x_loc 13)) (ok := (by decide +kernel : blkC d27.N e27.scope _ _ = true))) x_nil)))))
 (y_cons (y_gh 11 (s_if (PW.pt (st_or (st_not (xt_p F (x_fn F 18 25 (x_ca (x_cons (x_loc 6) (x_cons (x_loc 7) (x_cons (x_loc 9) (x_cons (x_loc 10) x_nil)))))))) (pw_or1 (st_not (xt_p F (x_fn F 18 25 (x_ca (x_cons (x_loc 6) (x_cons (x_loc 7) (x_cons (x_loc 9) (x_cons (x_loc 11) x_nil))))))))))) (y_cons (s_ret se_bl)
 y_nil) y_nil))
 (y_cons (s_if (xt_cmp F (x_opO F 8 "__xor__" (x_new F 9 1 29 (x_ca (x_cons (x_loc 6) (x_cons (x_loc 9) x_nil)))) (x_new F 9 1 29 (x_ca (x_cons (x_loc 6) (x_cons (x_loc 11) x_nil))))) (x_tup (x_cons (x_loc 12) x_nil))) (y_cons (s_ret se_bl)
 y_nil) y_nil)
 (y_cons (s_if (xt_cmp F (x_new F 9 1 29 (x_ca (x_cons (x_fn F 19 26 (x_ca (x_cons (x_loc 7) (x_cons (x_idx F (x_loc 5) x_str) x_nil)))) (x_cons (x_loc 9) x_nil)))) (x_new F 9 1 29 (x_ca (x_cons (x_loc 6) (x_cons (x_loc 9) x_nil))))) (y_cons (s_ret se_bl)
 y_nil) y_nil)
 y_nil)))))))
 y_nil))))
 y_nil)))
 (y_cons (s_ret se_bl)
 y_nil))
theorem ok27 : DefOk T P w K mg base 27 d27 := ⟨rfl, ⟨rfl, rfl, rfl, by decide +kernel, rfl, by decide +kernel, by decide +kernel⟩, rfl, rfl, bd27⟩
theorem oks (i : Nat) (D : WT.Def) (h : T.defs[i]? = some D) : DefOk T P w K mg base i D ∨ T.G.fns[i]? = some .no := by
  have := allD (Q := fun i D => DefOk T P w K mg base i D ∨ T.G.fns[i]? = some .no) (l := T.defs) (n := 0) ⟨.inr rfl, .inr rfl, .inr rfl, .inl ok3, .inl ok4, .inl ok5, .inl ok6, .inl ok7, .inl ok8, .inl ok9, .inl ok10, .inl ok11, .inl ok12, .inl ok13, .inl ok14, .inl ok15, .inl ok16, .inl ok17, .inl ok18, .inl ok19, .inl ok20, .inl ok21, .inl ok22, .inl ok23, .inl ok24, .inl ok25, .inl ok26, .inl ok27, trivial⟩ i D h
  rwa [Nat.zero_add] at this
theorem gbs (is : ∀ (i : Nat) (D : WT.Def), T.defs[i]? = some D → D.E.Is K (fdOf K ((T.gx K).fa i))) : Gbs T K := fun i D h => by
  have := allD (Q := fun i D => T.defs[i]? = some D → D.E.dfl = [] → D.E.kwd = [] → GB K (fdOf K ((T.gx K).fa i)) D.ps (posN D) []) (l := T.defs) (n := 0) ⟨fun h h1 h2 => gb_of (is _ _ h) h1 fun _ _ _ _ _ _ us ws hl hw => by obtain ⟨hu, rfl⟩ := split0 hl hw; match us, (show us.length = 2 from hu) with | [_, _], _ => rfl, fun h h1 h2 => gb_of (is _ _ h) h1 fun _ _ _ _ _ _ us ws hl hw => by obtain ⟨hu, rfl⟩ := split0 hl hw; match us, (show us.length = 2 from hu) with | [_, _], _ => rfl, fun h h1 h2 => gb_of (is _ _ h) h1 fun _ _ _ _ _ _ us ws hl hw => by obtain ⟨hu, rfl⟩ := split0 hl hw; match us, (show us.length = 2 from hu) with | [_, _], _ => rfl, fun h h1 h2 => gb_of (is _ _ h) h1 fun _ _ _ _ _ _ us ws hl hw => by obtain ⟨hu, rfl⟩ := split0 hl hw; match us, (show us.length = 1 from hu) with | [_], _ => rfl, fun h h1 h2 => gb_of (is _ _ h) h1 fun _ _ _ _ _ _ us ws hl hw => by obtain ⟨hu, rfl⟩ := split0 hl hw; match us, (show us.length = 3 from hu) with | [_, _, _], _ => rfl, fun h h1 h2 => gb_of (is _ _ h) h1 fun _ _ _ _ _ _ us ws hl hw => by obtain ⟨hu, rfl⟩ := split0 hl hw; match us, (show us.length = 1 from hu) with | [_], _ => rfl, fun h h1 h2 => gb_of (is _ _ h) h1 fun _ _ _ _ _ _ us ws hl hw => by obtain ⟨hu, rfl⟩ := split0 hl hw; match us, (show us.length = 1 from hu) with | [_], _ => rfl, fun h h1 h2 => gb_of (is _ _ h) h1 fun _ _ _ _ _ _ us ws hl hw => by obtain ⟨hu, rfl⟩ := split0 hl hw; match us, (show us.length = 2 from hu) with | [_, _], _ => rfl, fun h h1 h2 => gb_of (is _ _ h) h1 fun _ _ _ _ _ _ us ws hl hw => by obtain ⟨hu, rfl⟩ := split0 hl hw; match us, (show us.length = 2 from hu) with | [_, _], _ => rfl, fun h h1 h2 => gb_of (is _ _ h) h1 fun _ _ _ _ _ _ us ws hl hw => by obtain ⟨hu, rfl⟩ := split0 hl hw; match us, (show us.length = 2 from hu) with | [_, _], _ => rfl, fun h h1 h2 => gb_of (is _ _ h) h1 fun _ _ _ _ _ _ us ws hl hw => by obtain ⟨hu, rfl⟩ := split0 hl hw; match us, (show us.length = 2 from hu) with | [_, _], _ => rfl, fun h h1 h2 => gb_of (is _ _ h) h1 fun _ _ _ _ _ _ us ws hl hw => by obtain ⟨hu, rfl⟩ := split0 hl hw; match us, (show us.length = 3 from hu) with | [_, _, _], _ => rfl, fun h h1 h2 => gb_of (is _ _ h) h1 fun _ _ _ _ _ _ us ws hl hw => by obtain ⟨hu, rfl⟩ := split0 hl hw; match us, (show us.length = 1 from hu) with | [_], _ => rfl, fun h h1 h2 => gb_of (is _ _ h) h1 fun _ _ _ _ _ _ us ws hl hw => by obtain ⟨hu, rfl⟩ := split0 hl hw; match us, (show us.length = 2 from hu) with | [_, _], _ => rfl, fun h h1 h2 => gb_of (is _ _ h) h1 fun _ _ _ _ _ _ us ws hl hw => by obtain ⟨hu, rfl⟩ := split0 hl hw; match us, (show us.length = 1 from hu) with | [_], _ => rfl, fun h h1 h2 => gb_of (is _ _ h) h1 fun _ _ _ _ _ _ us ws hl hw => by obtain ⟨hu, rfl⟩ := split0 hl hw; match us, (show us.length = 2 from hu) with | [_, _], _ => rfl, fun h h1 h2 => gb_of (is _ _ h) h1 fun _ _ _ _ _ _ us ws hl hw => by obtain ⟨hu, rfl⟩ := split0 hl hw; match us, (show us.length = 2 from hu) with | [_, _], _ => rfl, fun h h1 h2 => gb_of (is _ _ h) h1 fun _ _ _ _ _ _ us ws hl hw => by obtain ⟨hu, rfl⟩ := split0 hl hw; match us, (show us.length = 2 from hu) with | [_, _], _ => rfl, fun h h1 h2 => gb_of (is _ _ h) h1 fun _ _ _ _ _ _ us ws hl hw => by obtain ⟨hu, rfl⟩ := split0 hl hw; match us, (show us.length = 2 from hu) with | [_, _], _ => rfl, fun h h1 h2 => gb_of (is _ _ h) h1 fun _ _ _ _ _ _ us ws hl hw => by obtain ⟨hu, rfl⟩ := split0 hl hw; match us, (show us.length = 2 from hu) with | [_, _], _ => rfl, fun h h1 h2 => gb_of (is _ _ h) h1 fun _ _ _ _ _ _ us ws hl hw => by obtain ⟨hu, rfl⟩ := split0 hl hw; match us, (show us.length = 2 from hu) with | [_, _], _ => rfl, fun h h1 h2 => gb_of (is _ _ h) h1 fun _ _ _ _ _ _ us ws hl hw => by obtain ⟨hu, rfl⟩ := split0 hl hw; match us, (show us.length = 2 from hu) with | [_, _], _ => rfl, fun h h1 h2 => gb_of (is _ _ h) h1 fun _ _ _ _ _ _ us ws hl hw => by obtain ⟨hu, rfl⟩ := split0 hl hw; match us, (show us.length = 3 from hu) with | [_, _, _], _ => rfl, fun h h1 h2 => gb_of (is _ _ h) h1 fun _ _ _ _ _ _ us ws hl hw => by obtain ⟨hu, rfl⟩ := split0 hl hw; match us, (show us.length = 3 from hu) with | [_, _, _], _ => rfl, fun h h1 h2 => gb_of (is _ _ h) h1 fun _ _ _ _ _ _ us ws hl hw => by obtain ⟨hu, rfl⟩ := split0 hl hw; match us, (show us.length = 3 from hu) with | [_, _, _], _ => rfl, fun h h1 h2 => gb_of (is _ _ h) h1 fun _ _ _ _ _ _ us ws hl hw => by obtain ⟨hu, rfl⟩ := split0 hl hw; match us, (show us.length = 4 from hu) with | [_, _, _, _], _ => rfl, fun h h1 h2 => gb_of (is _ _ h) h1 fun _ _ _ _ _ _ us ws hl hw => by obtain ⟨hu, rfl⟩ := split0 hl hw; match us, (show us.length = 2 from hu) with | [_, _], _ => rfl, fun h h1 h2 => gb_of (is _ _ h) h1 fun _ _ _ _ _ _ us ws hl hw => by obtain ⟨hu, rfl⟩ := split0 hl hw; match us, (show us.length = 1 from hu) with | [_], _ => rfl, trivial⟩ i D h
  rw [Nat.zero_add] at this
  exact this h
theorem xis (wd : Wd T P w K mg base) : Xis T P w K mg base := List.forall_mem_cons.mpr ⟨xi_of wd (q := (1, 0)) (g0 := 20) (List.mem_of_getElem? (i := 0) rfl) (hD := rfl) rfl rfl rfl rfl rfl ⟨rfl, rfl, rfl, by decide +kernel, rfl, by decide +kernel, by decide +kernel⟩ (List.mem_of_getElem? (i := 0) rfl) rfl rfl
    (fun X e1 e2 => by unfold Gl PySem.Env.kindOf; rw [e1]; rfl) (by decide +kernel) (.inl rfl) (.inl rfl) (by decide +kernel) (by decide +kernel) (fun _ => rfl) fun _ _ _ _ _ _ us hl => by match us, hl with | [_, _], _ => rfl,
  List.forall_mem_cons.mpr ⟨xi_of wd (q := (3, 1)) (g0 := 20) (List.mem_of_getElem? (i := 1) rfl) (hD := rfl) rfl rfl rfl rfl rfl ⟨rfl, rfl, rfl, by decide +kernel, rfl, by decide +kernel, by decide +kernel⟩ (List.mem_of_getElem? (i := 1) rfl) rfl rfl
    (fun X e1 e2 => by unfold Gl PySem.Env.kindOf; rw [e1]; rfl) (by decide +kernel) (.inl rfl) (.inl rfl) (by decide +kernel) (by decide +kernel) (fun _ => rfl) fun _ _ _ _ _ _ us hl => by match us, hl with | [_, _], _ => rfl,
  List.forall_mem_cons.mpr ⟨xi_of wd (q := (4, 2)) (g0 := 20) (List.mem_of_getElem? (i := 2) rfl) (hD := rfl) rfl rfl rfl rfl rfl ⟨rfl, rfl, rfl, by decide +kernel, rfl, by decide +kernel, by decide +kernel⟩ (List.mem_of_getElem? (i := 2) rfl) rfl rfl
    (fun X e1 e2 => by unfold Gl PySem.Env.kindOf; rw [e1]; rfl) (by decide +kernel) (.inl rfl) (.inl rfl) (by decide +kernel) (by decide +kernel) (fun _ => rfl) fun _ _ _ _ _ _ us hl => by match us, hl with | [_, _], _ => rfl,
  fun q hq => by cases hq⟩⟩⟩
end
/-! ### the head -/
abbrev R : PySem.W.OpenRow := PySem.W.OpenLaw.row PySem.Challenge.rw_wayturns_k03_tables_held_against_each_ot
def loose : List Str := (["WayError", "BadName", "BadNetwork", "BadTable", "BadNode", "LETTERS", "MOST_SIGNS", "MOST_NODES", "MOST_EXITS", "is_name", "Network", "is_node", "is_exit", "is_hop", "Table", "_law_begin", "_law_draw", "_law_pick", "_law_names", "_law_mixed", "_law_hop", "_law_flow", "_law_model", "_law_right", "_law_far"] : List Str)
abbrev hk : PySem.W.Hook := hookW 8 (T.defs.map (·.E)) (wdB T)
def ob (s : PySem.W.SharedT) : He.AlD := obsG 8 (T.defs.map (·.E)) (wdB T) (HandSHeadRun.getT s)
theorem ob_eq (s : PySem.W.SharedT) : ob s = hk.obs s.abs := obsG_of s
end LW
set_option maxRecDepth 100000
set_option maxHeartbeats 0
set_option autoImplicit false
namespace LW
open PySem PySem.Spec PyProof.Rows L2 WT
theorem tb : tbB T = true := by decide +kernel
theorem run (w : World) : HandSHeadRun.RunEq R (PySem.W.view R.prog [28]) hk ob 60000 loose w := by
  intro os
  kernel_rfl
end LW
open PySem PySem.W PySem.Calls PyProof.Rows
set_option maxRecDepth 100000 in
set_option maxHeartbeats 0 in
theorem PySem.Challenge.cw_wayturns_k03_tables_held_against_each_ot_holds : PySem.Challenge.rw_wayturns_k03_tables_held_against_each_ot.Holds := by
  w_on; o_law
  refine HandSHeadRun.head_any (r := OpenLaw.row PySem.Challenge.rw_wayturns_k03_tables_held_against_each_ot) (q := view (OpenLaw.row PySem.Challenge.rw_wayturns_k03_tables_held_against_each_ot).prog [28]) (H := LW.hk) (ob := LW.ob) (M := 60000) (loose := LW.loose) (d := HandSHeadRun.topDef (OpenLaw.row PySem.Challenge.rw_wayturns_k03_tables_held_against_each_ot).prog 28) (kwd := []) LW.ob_eq
    (by kernel_rfl) (fun s => by kernel_rfl) LW.run (by kernel_rfl) (by kernel_rfl) (by kernel_rfl) (by rfl) (by first | assumption | decide +kernel) (by decide +kernel) ⟨rfl, rfl, rfl, rfl, rfl, by decide +kernel⟩ ?hw ?hc
  case hw => w_witness2
  case hc => exact WT.walk_T (T := LW.T) (i := 27) (j := 21) (n := 40) (m := 8) (D := LW.d27) (x := "_law_script") (nm := "law") LW.tb rfl (by kernel_rfl) rfl rfl (by kernel_rfl) rfl rfl rfl (fun _ _ _ _ _ _ us hl => by match us, hl with | [_], _ => rfl) (fun P w K mg base => LW.oks) (fun K => LW.gbs) (fun P w K mg base => LW.xis) ⟨rfl, by decide, by decide⟩ LW.plain
