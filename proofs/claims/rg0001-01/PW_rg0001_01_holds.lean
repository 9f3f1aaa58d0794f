import PyProof.Rows.All
import Wide.All
import OpenK.AllK
import Wide.FinOn
import PySem.Challenge.RW_rg0001_01
set_option Elab.async false

-- EvA
namespace Mine
open PySem

inductive Key where
  | s (x : Str)
  | i (n : Int)
  | p (x y : Str)
  deriving DecidableEq

inductive D where
  | nil
  | bool (b : Bool)
  | int (i : Int)
  | str (s : Str)
  | tup (l : List D)
  | lst (l : List D)
  | dct (kvs : List (Key × D))
  | rng (n : Int)
  | loc (k : Nat)
  deriving Inhabited

noncomputable def eqLW (f : D → D → Option Bool) : List D → List D → Option Bool
  | [], [] => some true
  | a :: as, b :: bs => (f a b).bind fun x => (eqLW f as bs).map fun y => x && y
  | [], _ :: _ => some false
  | _ :: _, [] => some false
/-- Python's == on ints, strs, and tuples and lists of such, n deep -/
noncomputable def eqD : Nat → D → D → Option Bool
  | _, .int a, .int b => some (decide (a = b))
  | _, .str a, .str b => some (decide (a = b))
  | n + 1, .tup a, .tup b => eqLW (eqD n) a b
  | n + 1, .lst a, .lst b => if a.length = b.length then eqLW (eqD n) a b else some false
  | _, .int _, .str _ => some false
  | _, .int _, .tup _ => some false
  | _, .int _, .lst _ => some false
  | _, .str _, .int _ => some false
  | _, .str _, .tup _ => some false
  | _, .str _, .lst _ => some false
  | _, .tup _, .int _ => some false
  | _, .tup _, .str _ => some false
  | _, .tup _, .lst _ => some false
  | _, .lst _, .int _ => some false
  | _, .lst _, .str _ => some false
  | _, .lst _, .tup _ => some false
  | _, _, _ => none
noncomputable def eqFuel : Nat := 12

noncomputable abbrev Ctx := Str → Option D
noncomputable abbrev Store := List D
noncomputable abbrev Fn := List D → Store → Option (D × Store)
noncomputable abbrev Fns := Str → Option Fn

noncomputable def upd (Γ : Ctx) (x : Str) (d : D) : Ctx := fun y => if y = x then some d else Γ y

noncomputable def deref (σ : Store) : D → Option D
  | .loc k => match σ[k]? with
    | some .nil => none
    | r => r
  | d => some d

noncomputable def D.isLoc : D → Bool
  | .loc _ => true
  | _ => false

noncomputable def keyOf : D → Option Key
  | .str x => some (.s x)
  | .int n => some (.i n)
  | .tup [.str x, .str y] => some (.p x y)
  | _ => none
noncomputable def ofKey : Key → D
  | .s x => .str x
  | .i n => .int n
  | .p x y => .tup [.str x, .str y]

noncomputable def Key.kind : Key → Nat
  | .s _ => 0
  | .i _ => 1
  | .p _ _ => 2
noncomputable def kindsOk (k : Key) (kvs : List (Key × D)) : Bool := kvs.all fun kv => kv.1.kind == k.kind

noncomputable def assocGet (kvs : List (Key × D)) (k : Key) : Option D := (kvs.find? fun kv => decide (kv.1 = k)).map (·.2)
noncomputable def assocSet (kvs : List (Key × D)) (k : Key) (d : D) : List (Key × D) :=
  if (assocGet kvs k).isSome then kvs.map (fun kv => if kv.1 = k then (kv.1, d) else kv) else kvs ++ [(k, d)]

/-- for each item: is it the one? -/
noncomputable def eqEach : List D → D → Option (List Bool)
  | [], _ => some []
  | b :: bs, a => (eqD eqFuel b a).bind fun x => (eqEach bs a).map fun y => x :: y
noncomputable def inL (l : List D) (a : D) : Option Bool := (eqEach l a).map fun bs => bs.any id

noncomputable def memD (a : D) : D → Option Bool
  | .tup l => inL l a
  | .lst l => inL l a
  | .dct kvs => match keyOf a with
    | some k => if kindsOk k kvs then some (assocGet kvs k).isSome else none
    | none => none
  | _ => none

noncomputable def cmpV (op : CmpOp) (a b : D) : Option Bool :=
  match op with
  | .Eq => eqD eqFuel a b
  | .NotEq => (eqD eqFuel a b).map (!·)
  | .In => memD a b
  | .NotIn => (memD a b).map (!·)
  | .Lt => match a, b with | .int a, .int b => some (decide (a < b)) | _, _ => none
  | .LtE => match a, b with | .int a, .int b => some (decide (a ≤ b)) | _, _ => none
  | .Gt => match a, b with | .int a, .int b => some (decide (a > b)) | _, _ => none
  | _ => none
noncomputable def cmpD (σ : Store) (op : CmpOp) (a b : D) : Option Bool := (deref σ a).bind fun a => (deref σ b).bind fun b => cmpV op a b

noncomputable def binD (op : Operator) (a b : D) : Option D :=
  match op, a, b with
  | .Add, .int a, .int b => some (.int (a + b))
  | .Sub, .int a, .int b => some (.int (a - b))
  | .Mod, .int a, .int b => if 0 < b then some (.int (a % b)) else none
  | .Add, .str a, .str b => if a.length + b.length ≤ 1000 then some (.str (a ++ b)) else none
  | .Add, .lst a, .lst b => if a.length + b.length ≤ 1000 then some (.lst (a ++ b)) else none
  | _, _, _ => none

noncomputable def idx (l : List D) (i : Int) : Option D := if 0 ≤ i ∧ i ≤ 1000 then l[i.toNat]? else none

noncomputable def subD (a i : D) : Option D :=
  match a, i with
  | .lst l, .int i => idx l i
  | .tup l, .int i => idx l i
  | .dct kvs, k => match keyOf k with
    | some k => if kindsOk k kvs then assocGet kvs k else none
    | none => none
  | _, _ => none

noncomputable def clampI (i : Int) (n : Nat) : Nat := if i < 0 then (max (i + n) 0).toNat else min i.toNat n
noncomputable def loI (lo : Option Int) (n : Nat) : Nat := match lo with
  | some i => clampI i n
  | none => 0
noncomputable def hiI (hi : Option Int) (n : Nat) : Nat := match hi with
  | some i => clampI i n
  | none => n
noncomputable def sliceL (l : List D) (lo hi : Option Int) : List D := (l.drop (loI lo l.length)).take (hiI hi l.length - loI lo l.length)
noncomputable def sliceD (a : D) (lo hi : Option Int) : Option D :=
  match a with
  | .lst l => if l.length ≤ 1000 then some (.lst (sliceL l lo hi)) else none
  | .tup l => if l.length ≤ 1000 then some (.tup (sliceL l lo hi)) else none
  | _ => none

noncomputable def lenD : D → Option Int
  | .lst l => if l.length ≤ 1000 then some l.length else none
  | .tup l => if l.length ≤ 1000 then some l.length else none
  | _ => none

noncomputable def intsOf : List D → Option (List Int)
  | [] => some []
  | .int i :: r => (intsOf r).map (i :: ·)
  | _ :: _ => none

noncomputable def maxInt : List Int → Option Int
  | [] => none
  | x :: r => some (r.foldl (fun m y => if m < y then y else m) x)

noncomputable def intKeys : List (Key × D) → Option (List Int)
  | [] => some []
  | (.i n, _) :: r => (intKeys r).map (n :: ·)
  | _ :: _ => none

noncomputable def insertI (x : Int) : List Int → List Int
  | [] => [x]
  | y :: r => if x ≤ y then x :: y :: r else y :: insertI x r
noncomputable def sortI : List Int → List Int
  | [] => []
  | x :: r => insertI x (sortI r)

noncomputable def itemsOf : D → Option (List D)
  | .lst l => if l.length ≤ 1000 then some l else none
  | .tup l => if l.length ≤ 1000 then some l else none
  | .dct kvs => if kvs.length ≤ 1000 then some (kvs.map fun kv => ofKey kv.1) else none
  | .rng n => if 0 ≤ n ∧ n ≤ 1000 then some ((List.range n.toNat).map fun k : Nat => D.int (k : Int)) else none
  | _ => none

/-- what a for or a comprehension runs over: p is the value itself (a list of the frame's own may be run over), src what it stands for -/
noncomputable def itemsSrc (p src : D) : Option (List D) := if p.isLoc then (match src with | .lst l => itemsOf (.lst l) | _ => none) else itemsOf src

noncomputable def bi6 (f : Str) (a : D) : Option D := if f = Str.ofString "list" then (match a with | .tup l => if l.length ≤ 1000 then some (.lst l) else none | _ => none) else none
noncomputable def bi5 (f : Str) (a : D) : Option D := if f = Str.ofString "str" then (match a with | .int n => if 0 ≤ n ∧ n < 10000 then some (.str (Str.ofString (toString n))) else none | _ => none) else bi6 f a
noncomputable def bi4 (f : Str) (a : D) : Option D := if f = Str.ofString "sorted" then (match a with | .dct kvs => if kvs.length < 64 then (intKeys kvs).map fun ns => .lst ((sortI ns).map .int) else none | _ => none) else bi5 f a
noncomputable def bi3 (f : Str) (a : D) : Option D := if f = Str.ofString "max" then (match a with | .lst l => if l.length ≤ 1000 then (intsOf l).bind fun ns => (maxInt ns).map .int else none | _ => none) else bi4 f a
noncomputable def bi2 (f : Str) (a : D) : Option D := if f = Str.ofString "range" then (match a with | .int n => some (.rng n) | _ => none) else bi3 f a
noncomputable def bi1 (f : Str) (a : D) : Option D := if f = Str.ofString "len" then (lenD a).map .int else bi2 f a
noncomputable def builtinD (f : Str) (args : List D) : Option D :=
  match args with
  | [a] => bi1 f a
  | _ => none

noncomputable def countD (l : List D) (a : D) : Option Int := (eqEach l a).map fun bs => (bs.countP id : Nat)
noncomputable def indexD (l : List D) (a : D) : Option Int := (eqEach l a).bind fun bs => match bs.findIdx? id with
  | some n => some (n : Int)
  | none => none

/-- methods that change nothing -/
noncomputable def methD (m : Str) (a : D) (args : List D) : Option D :=
  match a, args with
  | .lst l, [x] =>
    if l.length ≤ 1000 then
      if m = Str.ofString "count" then (countD l x).map .int
      else if m = Str.ofString "index" then (indexD l x).map .int
      else none
    else none
  | .dct kvs, [k, d] =>
    if m = Str.ofString "get" then (match k with
      | .int n => if kindsOk (.i n) kvs then some ((assocGet kvs (.i n)).getD d) else none
      | _ => none)
    else none
  | _, _ => none

/-- methods that change a list of the call's own -/
noncomputable def methS (m : Str) (l : List D) (args : List D) : Option (D × List D) :=
  match args with
  | [] => if m = Str.ofString "pop" then (match l.getLast? with | some x => if l.length ≤ 1000 then some (x, l.dropLast) else none | none => none) else none
  | [x] =>
    if m = Str.ofString "append" then (if l.length ≤ 1000 && !x.isLoc then some (.nil, l ++ [x]) else none)
    else if m = Str.ofString "extend" then (match x with | .lst r => if l.length + r.length ≤ 1000 then some (.nil, l ++ r) else none | _ => none)
    else none
  | _ => none

noncomputable def D.truthB : D → Option Bool
  | .bool b => some b
  | _ => none

mutual
noncomputable def beqD : D → D → Bool
  | .nil, .nil => true
  | .bool a, .bool b => a == b
  | .int a, .int b => a == b
  | .str a, .str b => a == b
  | .tup a, .tup b => beqL a b
  | .lst a, .lst b => beqL a b
  | .dct a, .dct b => beqK a b
  | .rng a, .rng b => a == b
  | .loc a, .loc b => a == b
  | _, _ => false
noncomputable def beqL : List D → List D → Bool
  | [], [] => true
  | a :: as, b :: bs => beqD a b && beqL as bs
  | _, _ => false
noncomputable def beqK : List (Key × D) → List (Key × D) → Bool
  | [], [] => true
  | (k, a) :: as, (k', b) :: bs => decide (k = k') && beqD a b && beqK as bs
  | _, _ => false
end
theorem no {p : Prop} (h : false = true) : p := Bool.noConfusion h
mutual
theorem beqD_refl : ∀ d : D, beqD d d = true
  | .nil => rfl
  | .bool b => beq_self_eq_true b
  | .int b => beq_self_eq_true b
  | .str b => beq_self_eq_true b
  | .tup l => beqL_refl l
  | .lst l => beqL_refl l
  | .dct l => beqK_refl l
  | .rng b => beq_self_eq_true b
  | .loc b => beq_self_eq_true b
theorem beqL_refl : ∀ l : List D, beqL l l = true
  | [] => rfl
  | a :: as => Bool.and_eq_true_iff.mpr ⟨beqD_refl a, beqL_refl as⟩
theorem beqK_refl : ∀ l : List (Key × D), beqK l l = true
  | [] => rfl
  | (k, a) :: as => Bool.and_eq_true_iff.mpr ⟨Bool.and_eq_true_iff.mpr ⟨decide_eq_true rfl, beqD_refl a⟩, beqK_refl as⟩
end
mutual
theorem eq_of_beqD : ∀ {a b : D}, beqD a b = true → a = b
  | .nil, b, h => by cases b <;> first | rfl | exact no h
  | .bool _, b, h => by cases b <;> first | exact congrArg D.bool (eq_of_beq h) | exact no h
  | .int _, b, h => by cases b <;> first | exact congrArg D.int (eq_of_beq h) | exact no h
  | .str _, b, h => by cases b <;> first | exact congrArg D.str (eq_of_beq h) | exact no h
  | .tup l, b, h => by cases b <;> first | exact congrArg D.tup (eq_of_beqL h) | exact no h
  | .lst l, b, h => by cases b <;> first | exact congrArg D.lst (eq_of_beqL h) | exact no h
  | .dct l, b, h => by cases b <;> first | exact congrArg D.dct (eq_of_beqK h) | exact no h
  | .rng _, b, h => by cases b <;> first | exact congrArg D.rng (eq_of_beq h) | exact no h
  | .loc _, b, h => by cases b <;> first | exact congrArg D.loc (eq_of_beq h) | exact no h
theorem eq_of_beqL : ∀ {a b : List D}, beqL a b = true → a = b
  | [], [], _ => rfl
  | [], _ :: _, h => no h
  | _ :: _, [], h => no h
  | a :: as, b :: bs, h => by
    have h := Bool.and_eq_true_iff.mp h
    rw [eq_of_beqD h.1, eq_of_beqL h.2]
theorem eq_of_beqK : ∀ {a b : List (Key × D)}, beqK a b = true → a = b
  | [], [], _ => rfl
  | [], _ :: _, h => no h
  | _ :: _, [], h => no h
  | (k, a) :: as, (k', b) :: bs, h => by
    have h := Bool.and_eq_true_iff.mp h
    have h1 := Bool.and_eq_true_iff.mp h.1
    rw [of_decide_eq_true h1.1, eq_of_beqD h1.2, eq_of_beqK h.2]
end
noncomputable def sameAt : D → Store → Store → Bool
  | .loc k, σ, σ' => match σ[k]?, σ'[k]? with
    | some a, some b => beqD a b
    | _, _ => false
  | _, _, _ => true

noncomputable def compL (src : D) (f : D → Store → Option (List D × Store)) : List D → Store → Option (List D × Store)
  | [], σ => some ([], σ)
  | d :: ds, σ => match f d σ with
    | some (r, σ1) => if sameAt src σ σ1 then (match compL src f ds σ1 with | some (rs, σ2) => some (r ++ rs, σ2) | none => none) else none
    | none => none

inductive Fl where
  | next | brk | cont
  | ret (d : D)

noncomputable abbrev Res := Option (Fl × Ctx × Store)

noncomputable def assignNames : List Expr → List D → Ctx → Option Ctx
  | [], [], Γ => some Γ
  | .Name x _ :: ts, d :: ds, Γ => assignNames ts ds (upd Γ x d)
  | _, _, _ => none
noncomputable def assignT : Expr → D → Ctx → Option Ctx
  | .Name x _, d, Γ => some (upd Γ x d)
  | .Tuple ts _ _, .tup ds, Γ => assignNames ts ds Γ
  | _, _, _ => none

noncomputable def forL (src : D) (t : Expr) (body : Ctx → Store → Res) : List D → Ctx → Store → Res
  | [], Γ, σ => some (.next, Γ, σ)
  | d :: ds, Γ, σ => match assignT t d Γ with
    | none => none
    | some Γ1 => match body Γ1 σ with
      | some (.next, Γ2, σ2) => if sameAt src σ σ2 then forL src t body ds Γ2 σ2 else none
      | some (.cont, Γ2, σ2) => if sameAt src σ σ2 then forL src t body ds Γ2 σ2 else none
      | some (.brk, Γ2, σ2) => some (.next, Γ2, σ2)
      | some (.ret d, Γ2, σ2) => some (.ret d, Γ2, σ2)
      | none => none

noncomputable def whileL (test : Ctx → Store → Option (Bool × Store)) (body : Ctx → Store → Res) : Nat → Ctx → Store → Res
  | 0, _, _ => none
  | n + 1, Γ, σ => match test Γ σ with
    | none => none
    | some (false, σ1) => some (.next, Γ, σ1)
    | some (true, σ1) => match body Γ σ1 with
      | some (.next, Γ2, σ2) => whileL test body n Γ2 σ2
      | some (.cont, Γ2, σ2) => whileL test body n Γ2 σ2
      | some (.brk, Γ2, σ2) => some (.next, Γ2, σ2)
      | some (.ret d, Γ2, σ2) => some (.ret d, Γ2, σ2)
      | none => none
end Mine

-- EvB
namespace Mine
open PySem

noncomputable def isDisplay : Expr → Bool
  | .List .. => true
  | .Dict .. => true
  | _ => false

noncomputable def tDisp (mv : List Str) : Expr → Expr → Bool
  | .Name x _, e => mv.contains x && isDisplay e
  | _, _ => false

noncomputable def pos0 : Pos := ⟨0, 0, 0, 0⟩
noncomputable def plainAll (ds : List D) : Bool := ds.all fun d => !d.isLoc

noncomputable def dictOfPairs : List (D × D) → List (Key × D) → Option (List (Key × D))
  | [], acc => some acc
  | (.str k, v) :: r, acc => if v.isLoc then none else dictOfPairs r (assocSet acc (.s k) v)
  | _ :: _, _ => none

noncomputable def evMeth (name : Str) (a : D) (args : List D) (σ : Store) : Option (D × Store) :=
  if plainAll args then
    match a with
    | .loc k => match σ[k]? with
      | some (.lst l) => match methS name l args with
        | some (d, l') => some (d, σ.set k (.lst l'))
        | none => (methD name (.lst l) args).map fun d => (d, σ)
      | some a => (methD name a args).map fun d => (d, σ)
      | none => none
    | a => (methD name a args).map fun d => (d, σ)
  else none

/-- of the frame around, a comprehension sees what it captures -/
noncomputable def capt (sc : Scope) (Γ : Ctx) : Ctx := fun x => if sc.names.lookup x = some .free then Γ x else none

noncomputable def methHead (m : Str) : D → Bool
  | .lst _ => decide (m = Str.ofString "count") || decide (m = Str.ofString "index") || decide (m = Str.ofString "append") || decide (m = Str.ofString "pop") || decide (m = Str.ofString "extend")
  | .dct _ => decide (m = Str.ofString "get")
  | _ => false

mutual
noncomputable def evE : Nat → Fns → Ctx → Expr → Store → Option (D × Store)
  | 0, _, _, _, _ => none
  | n + 1, F, Γ, e, σ => match e with
    | .Constant (.int i) _ _ => some (.int i, σ)
    | .Constant (.str s) _ _ => some (.str s, σ)
    | .Constant (.bool b) _ _ => some (.bool b, σ)
    | .Name x _ => (Γ x).map fun d => (d, σ)
    | .Tuple es _ _ => (evEs n F Γ es σ).bind fun p => if plainAll p.1 && p.1.length ≤ 1000 then some (.tup p.1, p.2) else none
    | .List es _ => (evEs n F Γ es σ).bind fun p => if plainAll p.1 && p.1.length ≤ 1000 then some (.lst p.1, p.2) else none
    | .BinOp l op r _ => (evE n F Γ l σ).bind fun p => (evE n F Γ r p.2).bind fun q => (binD op p.1 q.1).map fun d => (d, q.2)
    | .UnaryOp .USub e _ => (evE n F Γ e σ).bind fun p => match p.1 with | .int i => some (.int (-i), p.2) | _ => none
    | .IfExp t b o _ => (evT n F Γ t σ).bind fun p => if p.1 then evE n F Γ b p.2 else evE n F Γ o p.2
    | .BoolOp op es _ => evV n F Γ op es σ
    | .Compare l [op] [r] _ => (evE n F Γ l σ).bind fun p => (evE n F Γ r p.2).bind fun q => (cmpD q.2 op p.1 q.1).map fun b => (.bool b, q.2)
    | .Subscript v (.Slice lo hi none _) _ => (evE n F Γ v σ).bind fun p => (evO n F Γ lo p.2).bind fun q => (evO n F Γ hi q.2).bind fun r =>
        (deref r.2 p.1).bind fun a => (sliceD a q.1 r.1).map fun d => (d, r.2)
    | .Subscript v i _ => (evE n F Γ v σ).bind fun p => (evE n F Γ i p.2).bind fun q => (deref q.2 p.1).bind fun a => (subD a q.1).map fun d => (d, q.2)
    | .Call (.Attribute o name _) args [] _ => (evE n F Γ o σ).bind fun p => (deref p.2 p.1).bind fun a0 => if methHead name a0 then (evEs n F Γ args p.2).bind fun q => evMeth name p.1 q.1 q.2 else none
    | .Call (.Name f _) args [] _ => (evEs n F Γ args σ).bind fun q => match F f with
        | some fn => fn q.1 q.2
        | none => (q.1.mapM (deref q.2)).bind fun as => (builtinD f as).map fun d => (d, q.2)
    | .ListComp elt (⟨t, it, ifs, _⟩ :: gs) sc _ => (evE n F Γ it σ).bind fun p => (deref p.2 p.1).bind fun src => (itemsSrc p.1 src).bind fun items =>
        (compL p.1 (fun d σ => (assignT t d (capt sc Γ)).bind fun Γ1 => (evB n F Γ1 .And ifs σ).bind fun q => if q.1 then evG n F Γ1 elt gs q.2 else some ([], q.2)) items p.2).bind fun p =>
          if p.1.length ≤ 1000 then some (.lst p.1, p.2) else none
    | _ => none
noncomputable def evEs : Nat → Fns → Ctx → List Expr → Store → Option (List D × Store)
  | 0, _, _, _, _ => none
  | n + 1, F, Γ, es, σ => match es with
    | [] => some ([], σ)
    | e :: r => (evE n F Γ e σ).bind fun p => (evEs n F Γ r p.2).bind fun q => some (p.1 :: q.1, q.2)
noncomputable def evO : Nat → Fns → Ctx → Option Expr → Store → Option (Option Int × Store)
  | 0, _, _, _, _ => none
  | n + 1, F, Γ, eo, σ => match eo with
    | none => some (none, σ)
    | some e => (evE n F Γ e σ).bind fun p => match p.1 with
      | .int i => some (some i, p.2)
      | _ => none
noncomputable def evV : Nat → Fns → Ctx → BoolOp → List Expr → Store → Option (D × Store)
  | 0, _, _, _, _, _ => none
  | n + 1, F, Γ, op, es, σ => match es with
    | [] => none
    | [e] => evE n F Γ e σ
    | e :: r => (evE n F Γ e σ).bind fun p => match op, p.1 with
      | .And, .bool false => some (.bool false, p.2)
      | .Or, .bool true => some (.bool true, p.2)
      | _, .bool _ => evV n F Γ op r p.2
      | _, _ => none
noncomputable def evT : Nat → Fns → Ctx → Expr → Store → Option (Bool × Store)
  | 0, _, _, _, _ => none
  | n + 1, F, Γ, e, σ => match e with
    | .Compare l [op] [r] _ => (evE n F Γ l σ).bind fun p => (evE n F Γ r p.2).bind fun q => (cmpD q.2 op p.1 q.1).map fun b => (b, q.2)
    | .BoolOp op es _ => evB n F Γ op es σ
    | _ => none
noncomputable def evB : Nat → Fns → Ctx → BoolOp → List Expr → Store → Option (Bool × Store)
  | 0, _, _, _, _, _ => none
  | n + 1, F, Γ, op, es, σ => match es with
    | [] => some (op == .And, σ)
    | e :: r => (evT n F Γ e σ).bind fun p => match op, p.1 with
      | .And, false => some (false, p.2)
      | .Or, true => some (true, p.2)
      | _, _ => evB n F Γ op r p.2
noncomputable def evG : Nat → Fns → Ctx → Expr → List Comprehension → Store → Option (List D × Store)
  | 0, _, _, _, _, _ => none
  | n + 1, F, Γ, elt, gens, σ => match gens with
    | [] => (evE n F Γ elt σ).bind fun p => if p.1.isLoc then none else some ([p.1], p.2)
    | ⟨t, it, ifs, _⟩ :: gs => (evE n F Γ it σ).bind fun p => (deref p.2 p.1).bind fun src => (itemsSrc p.1 src).bind fun items =>
        compL p.1 (fun d σ => (assignT t d Γ).bind fun Γ1 => (evB n F Γ1 .And ifs σ).bind fun q => if q.1 then evG n F Γ1 elt gs q.2 else some ([], q.2)) items p.2
end

noncomputable def evPairs : Nat → Fns → Ctx → List (Option Expr) → List Expr → Store → Option (List (D × D) × Store)
  | n, F, Γ, some k :: ks, v :: vs, σ => (evE n F Γ k σ).bind fun p => (evE n F Γ v p.2).bind fun q => (evPairs n F Γ ks vs q.2).bind fun r => some ((p.1, q.1) :: r.1, r.2)
  | _, _, _, [], [], σ => some ([], σ)
  | _, _, _, _, _, _ => none

/-- a display: the content of a new object of the frame's own -/
noncomputable def evF (n : Nat) (F : Fns) (Γ : Ctx) (e : Expr) (σ : Store) : Option (D × Store) := match e with
  | .List es _ => (evEs n F Γ es σ).bind fun p => if plainAll p.1 && p.1.length ≤ 1000 then some (.lst p.1, p.2) else none
  | .Dict ks vs _ => if ks.length ≤ 15 then (evPairs n F Γ ks vs σ).bind fun p => (dictOfPairs p.1 []).bind fun kvs => some (.dct kvs, p.2) else none
  | _ => none

noncomputable def evFs (n : Nat) (F : Fns) (mv : List Str) (Γ : Ctx) : List Expr → List Expr → Store → Option (List D × Store)
  | [], [], σ => some ([], σ)
  | t :: ts, e :: es, σ =>
    if tDisp mv t e then (evF n F Γ e σ).bind fun p => (evFs n F mv Γ ts es (p.2 ++ [p.1])).bind fun q => some (.loc p.2.length :: q.1, q.2)
    else (evE n F Γ e σ).bind fun p => if p.1.isLoc then none else (evFs n F mv Γ ts es p.2).bind fun q => some (p.1 :: q.1, q.2)
  | _, _, _ => none

noncomputable def exAssign (n : Nat) (F : Fns) (mv : List Str) (t e : Expr) (Γ : Ctx) (σ : Store) : Res := match t with
  | .Name x p => if tDisp mv (.Name x p) e then (evF n F Γ e σ).bind fun p => some (.next, upd Γ x (.loc p.2.length), p.2 ++ [p.1])
      else (evE n F Γ e σ).bind fun p => if p.1.isLoc then none else some (.next, upd Γ x p.1, p.2)
  | .Tuple ts _ _ => match e with
    | .Tuple es _ _ => (evFs n F mv Γ ts es σ).bind fun p => (assignNames ts p.1 Γ).bind fun Γ1 => some (.next, Γ1, p.2)
    | e => (evE n F Γ e σ).bind fun p => (assignT t p.1 Γ).bind fun Γ1 => some (.next, Γ1, p.2)
  | .Subscript (.Name x _) i _ => (evE n F Γ e σ).bind fun p => (evE n F Γ i p.2).bind fun q => match Γ x, keyOf q.1 with
      | some (.loc k), some key => match q.2[k]? with
        | some (.dct kvs) => if kindsOk key kvs && !p.1.isLoc && kvs.length ≤ 1000 then some (.next, Γ, q.2.set k (.dct (assocSet kvs key p.1))) else none
        | _ => none
      | _, _ => none
  | _ => none

noncomputable def exAug (n : Nat) (F : Fns) (t e : Expr) (Γ : Ctx) (σ : Store) : Res := match t with
  | .Name x _ => (evE n F Γ e σ).bind fun p => match Γ x, p.1 with
      | some (.loc k), .lst r => match p.2[k]? with
        | some (.lst l) => if l.length + r.length ≤ 1000 then some (.next, Γ, p.2.set k (.lst (l ++ r))) else none
        | _ => none
      | _, _ => none
  | .Subscript (.Name x _) i _ => (evE n F Γ i σ).bind fun q => match Γ x, keyOf q.1 with
      | some (.loc k), some key => match q.2[k]? with
        | some (.dct kvs) => if kindsOk key kvs && kvs.length ≤ 1000 then match assocGet kvs key, e with
            | some (.int a), .Constant (.int b) _ _ => some (.next, Γ, q.2.set k (.dct (assocSet kvs key (.int (a + b)))))
            | _, _ => none
          else none
        | _ => none
      | _, _ => none
  | _ => none

/-- a for over a dict of the frame's own: the dict is frozen from there on -/
noncomputable def frozenDict (Γ : Ctx) (σ : Store) : Expr → Option (Str × Nat × List (Key × D))
  | .Name x _ => match Γ x with
    | some (.loc k) => match σ[k]? with
      | some (.dct kvs) => some (x, k, kvs)
      | _ => none
    | _ => none
  | _ => none

noncomputable def wfuel : Nat := 1000

mutual
noncomputable def exS : Nat → Fns → List Str → Stmt → Ctx → Store → Res
  | 0, _, _, _, _, _ => none
  | n + 1, F, mv, s, Γ, σ => match s with
    | .Assign [t] e _ => exAssign n F mv t e Γ σ
    | .AugAssign t .Add e _ => exAug n F t e Γ σ
    | .Return (some e) _ => (evE n F Γ e σ).bind fun p => some (.ret p.1, Γ, p.2)
    | .Expr e _ => (evE n F Γ e σ).bind fun p => some (.next, Γ, p.2)
    | .If t b o _ => (evT n F Γ t σ).bind fun p => if p.1 then exSs n F mv b Γ p.2 else exSs n F mv o Γ p.2
    | .While t b [] _ => whileL (fun Γ σ => evT n F Γ t σ) (fun Γ σ => exSs n F mv b Γ σ) wfuel Γ σ
    | .For t it b [] _ => match frozenDict Γ σ it with
        | some (x, k, kvs) => (itemsOf (.dct kvs)).bind fun items => forL .nil t (fun Γ σ => exSs n F mv b Γ σ) items (upd Γ x (.dct kvs)) (σ.set k .nil)
        | none => (evE n F Γ it σ).bind fun p => (deref p.2 p.1).bind fun src => (itemsSrc p.1 src).bind fun items =>
          forL p.1 t (fun Γ σ => exSs n F mv b Γ σ) items Γ p.2
    | .Continue _ => some (.cont, Γ, σ)
    | .Break _ => some (.brk, Γ, σ)
    | _ => none
noncomputable def exSs : Nat → Fns → List Str → List Stmt → Ctx → Store → Res
  | 0, _, _, _, _, _ => none
  | n + 1, F, mv, ss, Γ, σ => match ss with
    | [] => some (.next, Γ, σ)
    | s :: r => match exS n F mv s Γ σ with
      | some (.next, Γ1, σ1) => exSs n F mv r Γ1 σ1
      | x => x
end

/-! ## what a text must be like for the evaluator to be believed -/
noncomputable abbrev Names := List (Str × NameKind)
noncomputable def okName (nm : Names) (x : Str) : Bool := !(x == ("__debug__" : Str)) && !(x == ("__classdict__" : Str)) && (match nm.lookup x with
  | some .local => true
  | some .cell => true
  | some .free => true
  | some .globalImplicit => true
  | _ => false)
noncomputable def okGlobal (nm : Names) (x : Str) : Bool := !(x == ("__debug__" : Str)) && nm.lookup x == some .globalImplicit
noncomputable def okTarget (nm : Names) (x : Str) : Bool := match nm.lookup x with
  | some .local => true
  | some .cell => true
  | _ => false
noncomputable def innerNames (outer inner : Names) : Names := inner.map fun (n, k) => if k == .free && outer.lookup n == some .cell then (n, .cell) else (n, k)
noncomputable def okInner (outer inner : Names) : Bool := decide (inner.map (·.1)).Nodup && inner.all fun (n, k) => match k with
  | .local => true
  | .cell => true
  | .globalImplicit => true
  | .free => (match outer.lookup n with
    | some .cell => true
    | some .free => true
    | _ => false)
  | _ => false
noncomputable def wfGen (f : Expr → Bool) (inner : Names) (g : Comprehension) : Bool := (match g.target with
  | .Name t _ => okTarget inner t
  | _ => false) && g.ifs.all f && g.is_async == 0
noncomputable def targetOf : Comprehension → Option Str
  | ⟨.Name t _, _, _, _⟩ => some t
  | _ => none
noncomputable def wfE : Nat → Names → Expr → Bool
  | 0, _, _ => false
  | m + 1, nm, e => match e with
    | .Constant (.int _) _ _ => true
    | .Constant (.str _) _ _ => true
    | .Constant (.bool _) _ _ => true
    | .Name x _ => okName nm x
    | .Tuple es _ _ => es.all (wfE m nm)
    | .List es _ => es.all (wfE m nm)
    | .BinOp l _ r _ => wfE m nm l && wfE m nm r
    | .UnaryOp _ e _ => wfE m nm e
    | .IfExp t b o _ => wfE m nm t && wfE m nm b && wfE m nm o
    | .BoolOp _ es _ => es.all (wfE m nm)
    | .Compare l _ rs _ => wfE m nm l && rs.all (wfE m nm)
    | .Subscript v (.Slice lo hi none _) _ => wfE m nm v && lo.all (wfE m nm) && hi.all (wfE m nm)
    | .Subscript v i _ => wfE m nm v && wfE m nm i
    | .Call (.Attribute (.Name x _) _ apos) args [] pos => okName nm x && args.all (wfE m nm) && decide (args.length < 30) && apos.endLine == pos.line
    | .Call (.Name f _) args [] _ => okGlobal nm f && args.all (wfE m nm) && decide (args.length ≤ 30)
    | .ListComp elt (g :: gs) sc _ => sc.kind == .function && okInner nm sc.names && decide ((g :: gs).filterMap targetOf).Nodup && wfE m nm g.iter && (g :: gs).all (fun g => wfGen (wfE m (innerNames nm sc.names)) sc.names g) &&
        gs.all (fun g => wfE m (innerNames nm sc.names) g.iter) && wfE m (innerNames nm sc.names) elt
    | _ => false

/-- a display, or a plain expression -/
noncomputable def wfF (m : Nat) (nm : Names) : Expr → Bool
  | .List es _ => es.all (wfE m nm)
  | .Dict ks vs _ => ks.all (fun k => match k with | some k => wfE m nm k | none => false) && vs.all (wfE m nm) && decide (ks.length = vs.length)
  | e => wfE m nm e
noncomputable def okNameT (nm : Names) : Expr → Bool
  | .Name x _ => okTarget nm x
  | _ => false
noncomputable def wfT (nm : Names) : Expr → Bool
  | .Name x _ => okTarget nm x
  | .Tuple ts _ _ => ts.all (okNameT nm)
  | _ => false
noncomputable def someCell (nm : Names) (ts : List Expr) : Bool := ts.any fun t => match t with
  | .Name x _ => nm.lookup x == some .cell
  | _ => false
noncomputable def isCall : Expr → Bool
  | .Call .. => true
  | _ => false
noncomputable def isTup : Expr → Bool
  | .Tuple .. => true
  | _ => false
noncomputable def wfS : Nat → Names → Stmt → Bool
  | 0, _, _ => false
  | m + 1, nm, s => match s with
    | .Assign [.Name x _] e _ => okTarget nm x && wfF m nm e
    | .Assign [.Tuple ts _ _] e _ => ts.all (okNameT nm) && (match e with
      | .Tuple es _ _ => es.all (wfF m nm) && someCell nm ts && decide (ts.length ≤ 3)
      | e => wfE m nm e && !isTup e)
    | .Assign [.Subscript (.Name x _) i _] e _ => okName nm x && wfE m nm i && wfE m nm e
    | .AugAssign (.Name x _) .Add e _ => okTarget nm x && wfE m nm e
    | .AugAssign (.Subscript (.Name x _) i _) .Add (.Constant (.int _) _ _) _ => okName nm x && wfE m nm i
    | .Return (some e) _ => wfE m nm e
    | .Expr e _ => wfE m nm e && isCall e
    | .If t b o _ => wfE m nm t && b.all (wfS m nm) && o.all (wfS m nm)
    | .While t b [] _ => wfE m nm t && b.all (wfS m nm)
    | .For t it b [] _ => wfT nm t && wfE m nm it && b.all (wfS m nm)
    | .Continue _ => true
    | .Break _ => true
    | .Raise .. => true
    | _ => false

noncomputable def bindArgsD : List Str → List D → Ctx → Option Ctx
  | [], [], Γ => some Γ
  | x :: xs, d :: ds, Γ => bindArgsD xs ds (upd Γ x d)
  | _, _, _ => none

noncomputable def finish (n : Nat) (d : D) (σ : Store) : Option (D × Store) := match d with
  | .loc k => if n ≤ k then (deref σ (.loc k)).map fun d => (d, σ.take n) else none
  | d => some (d, σ.take n)

noncomputable def runFn (fuel : Nat) (F : Fns) (mv : List Str) (params : List Str) (body : List Stmt) (Γ0 : Ctx) : Fn := fun args σ =>
  (bindArgsD params args Γ0).bind fun Γ => match exSs fuel F mv body Γ σ with
    | some (.ret d, _, σ1) => finish σ.length d σ1
    | _ => none

/-- a def of the text by its name: its parameters, body, scope -/
noncomputable def defOf (x : Str) : List Stmt → Option (List Str × List Stmt × Scope)
  | [] => none
  | .FunctionDef n args b _ _ _ sc _ _ _ :: r => if n = x then some (args.args.map (·.arg), b, sc) else defOf x r
  | _ :: r => defOf x r
end Mine

-- EvL
namespace Mine
open PySem

theorem nn {p : Prop} {α : Type} {x : α} (h : (none : Option α) = some x) : p := Option.noConfusion rfl (heq_of_eq h)
theorem bsome {α β : Type} {x : Option α} {f : α → Option β} {b : β} (h : x.bind f = some b) : ∃ a, x = some a ∧ f a = some b := Option.bind_eq_some_iff.mp h
theorem msome {α β : Type} {x : Option α} {f : α → β} {b : β} (h : x.map f = some b) : ∃ a, x = some a ∧ f a = b := Option.map_eq_some_iff.mp h
theorem psome {α β : Type} {a c : α} {b d : β} (h : some (a, b) = some (c, d)) : a = c ∧ b = d := Prod.mk.inj (Option.some.inj h)
theorem tinj {α β γ : Type} {a a' : α} {b b' : β} {c c' : γ} (h : (a, b, c) = (a', b', c')) : a = a' ∧ b = b' ∧ c = c' := ⟨(Prod.mk.inj h).1, Prod.mk.inj (Prod.mk.inj h).2⟩
theorem tsome {α β γ : Type} {a a' : α} {b b' : β} {c c' : γ} (h : some (a, b, c) = some (a', b', c')) : a = a' ∧ b = b' ∧ c = c' := tinj (Option.some.inj h)
theorem isome {α : Type} {c : Bool} {x y : α} (h : (if c then some x else none) = some y) : c = true ∧ x = y := by
  cases c
  · exact nn h
  · exact ⟨rfl, Option.some.inj h⟩

theorem compL_inv {src : D} {f : D → Store → Option (List D × Store)} {d : D} {ds r : List D} {σ σ' : Store} (e : compL src f (d :: ds) σ = some (r, σ')) : ∃ rd σ1 rs, f d σ = some (rd, σ1) ∧ sameAt src σ σ1 = true ∧ compL src f ds σ1 = some (rs, σ') ∧ rd ++ rs = r := by
  have e : (match f d σ with
    | some (r, σ1) => if sameAt src σ σ1 then (match compL src f ds σ1 with | some (rs, σ2) => some (r ++ rs, σ2) | none => none) else none
    | none => none) = some (r, σ') := e
  cases h1 : f d σ with
  | none => rw [h1] at e; exact nn e
  | some x =>
    rw [h1] at e
    by_cases h2 : sameAt src σ x.2 = true
    · have e := (if_pos h2).symm.trans e
      cases h3 : compL src f ds x.2 with
      | none => rw [h3] at e; exact nn e
      | some y =>
        rw [h3] at e
        obtain ⟨e1, e2⟩ := psome e
        exact ⟨x.1, x.2, y.1, rfl, h2, e2 ▸ h3, e1⟩
    · exact nn ((if_neg h2).symm.trans e)
theorem deref_inv {σ : Store} {k : Nat} {d : D} (e : deref σ (.loc k) = some d) : σ[k]? = some d ∧ d ≠ .nil := by
  have e : (match σ[k]? with
    | some .nil => none
    | r => r) = some d := e
  cases h : σ[k]? with
  | none => rw [h] at e; exact nn e
  | some a =>
    rw [h] at e
    cases a with
    | nil => exact nn e
    | _ => obtain rfl := Option.some.inj e; exact ⟨rfl, fun q => by cases q⟩
theorem okNameT_of {nm : Names} {t : Expr} (h : okNameT nm t = true) : ∃ x p, t = .Name x p ∧ okTarget nm x = true := by
  cases t with
  | Name x p => exact ⟨x, p, rfl, h⟩
  | _ => exact no h
theorem eqD_int {n : Nat} {a b : Int} : eqD n (.int a) (.int b) = some (decide (a = b)) := by cases n <;> rfl
theorem eqD_str {n : Nat} {a b : Str} : eqD n (.str a) (.str b) = some (decide (a = b)) := by cases n <;> rfl
theorem eqD_tup {n : Nat} {a b : List D} : eqD (n + 1) (.tup a) (.tup b) = eqLW (eqD n) a b := rfl
theorem eqD_lst {n : Nat} {a b : List D} : eqD (n + 1) (.lst a) (.lst b) = if a.length = b.length then eqLW (eqD n) a b else some false := rfl
theorem eLW_nil {f : D → D → Option Bool} : eqLW f [] [] = some true := rfl
theorem eLW_cons {f : D → D → Option Bool} {a b : D} {as bs : List D} : eqLW f (a :: as) (b :: bs) = (f a b).bind fun x => (eqLW f as bs).map fun y => x && y := rfl
theorem eLW_nc {f : D → D → Option Bool} {b : D} {bs : List D} : eqLW f [] (b :: bs) = some false := rfl
theorem eLW_cn {f : D → D → Option Bool} {a : D} {as : List D} : eqLW f (a :: as) [] = some false := rfl
theorem eEach_nil {a : D} : eqEach [] a = some [] := rfl
theorem eEach_cons {a b : D} {bs : List D} : eqEach (b :: bs) a = (eqD eqFuel b a).bind fun x => (eqEach bs a).map fun y => x :: y := rfl
/-! ## the evaluator's equations, one for each form -/
section
variable {n : Nat} {F : Fns} {Γ : Ctx} {σ : Store} {mv : List Str} {e l r v i t b o lo hi : Expr} {es rs args : List Expr} {k : Nat} {p q p' : Pos} {x : Str} {z : Int}
theorem eE_int : evE (n + 1) F Γ (.Constant (.int z) k p) σ = some (.int z, σ) := rfl
theorem eE_str : evE (n + 1) F Γ (.Constant (.str x) k p) σ = some (.str x, σ) := rfl
theorem eE_bool {y : Bool} : evE (n + 1) F Γ (.Constant (.bool y) k p) σ = some (.bool y, σ) := rfl
theorem eE_name : evE (n + 1) F Γ (.Name x p) σ = (Γ x).map fun d => (d, σ) := rfl
theorem eE_tuple : evE (n + 1) F Γ (.Tuple es k p) σ = (evEs n F Γ es σ).bind fun p => if plainAll p.1 && p.1.length ≤ 1000 then some (.tup p.1, p.2) else none := rfl
theorem eE_list : evE (n + 1) F Γ (.List es p) σ = (evEs n F Γ es σ).bind fun p => if plainAll p.1 && p.1.length ≤ 1000 then some (.lst p.1, p.2) else none := rfl
theorem eE_bin {op : Operator} : evE (n + 1) F Γ (.BinOp l op r p) σ = (evE n F Γ l σ).bind fun p => (evE n F Γ r p.2).bind fun q => (binD op p.1 q.1).map fun d => (d, q.2) := rfl
theorem eE_neg : evE (n + 1) F Γ (.UnaryOp .USub e p) σ = (evE n F Γ e σ).bind fun p => match p.1 with | .int i => some (.int (-i), p.2) | _ => none := rfl
theorem eE_if : evE (n + 1) F Γ (.IfExp t b o p) σ = (evT n F Γ t σ).bind fun p => if p.1 then evE n F Γ b p.2 else evE n F Γ o p.2 := rfl
theorem eE_boolop {op : BoolOp} : evE (n + 1) F Γ (.BoolOp op es p) σ = evV n F Γ op es σ := rfl
theorem eE_cmp {op : CmpOp} : evE (n + 1) F Γ (.Compare l [op] [r] p) σ = (evE n F Γ l σ).bind fun p => (evE n F Γ r p.2).bind fun q => (cmpD q.2 op p.1 q.1).map fun b => (.bool b, q.2) := rfl
theorem eE_slice {lo hi : Option Expr} : evE (n + 1) F Γ (.Subscript v (.Slice lo hi none q) p) σ = (evE n F Γ v σ).bind fun p => (evO n F Γ lo p.2).bind fun q => (evO n F Γ hi q.2).bind fun r =>
        (deref r.2 p.1).bind fun a => (sliceD a q.1 r.1).map fun d => (d, r.2) := rfl
theorem eE_subN : evE (n + 1) F Γ (.Subscript v (.Name x q) p) σ = (evE n F Γ v σ).bind fun p => (evE n F Γ (.Name x q) p.2).bind fun q => (deref q.2 p.1).bind fun a => (subD a q.1).map fun d => (d, q.2) := rfl
theorem eE_subC {c : Const} : evE (n + 1) F Γ (.Subscript v (.Constant c k q) p) σ = (evE n F Γ v σ).bind fun p => (evE n F Γ (.Constant c k q) p.2).bind fun q => (deref q.2 p.1).bind fun a => (subD a q.1).map fun d => (d, q.2) := rfl
theorem eE_subT : evE (n + 1) F Γ (.Subscript v (.Tuple es k q) p) σ = (evE n F Γ v σ).bind fun p => (evE n F Γ (.Tuple es k q) p.2).bind fun q => (deref q.2 p.1).bind fun a => (subD a q.1).map fun d => (d, q.2) := rfl
theorem eE_subU {op : UnaryOp} : evE (n + 1) F Γ (.Subscript v (.UnaryOp op e q) p) σ = (evE n F Γ v σ).bind fun p => (evE n F Γ (.UnaryOp op e q) p.2).bind fun q => (deref q.2 p.1).bind fun a => (subD a q.1).map fun d => (d, q.2) := rfl
theorem eE_subB {op : Operator} : evE (n + 1) F Γ (.Subscript v (.BinOp l op r q) p) σ = (evE n F Γ v σ).bind fun p => (evE n F Γ (.BinOp l op r q) p.2).bind fun q => (deref q.2 p.1).bind fun a => (subD a q.1).map fun d => (d, q.2) := rfl
theorem eE_subS : evE (n + 1) F Γ (.Subscript v (.Subscript l i q) p) σ = (evE n F Γ v σ).bind fun p => (evE n F Γ (.Subscript l i q) p.2).bind fun q => (deref q.2 p.1).bind fun a => (subD a q.1).map fun d => (d, q.2) := rfl
theorem eE_subK {ks : List Keyword} : evE (n + 1) F Γ (.Subscript v (.Call l es ks q) p) σ = (evE n F Γ v σ).bind fun p => (evE n F Γ (.Call l es ks q) p.2).bind fun q => (deref q.2 p.1).bind fun a => (subD a q.1).map fun d => (d, q.2) := rfl
theorem eE_meth : evE (n + 1) F Γ (.Call (.Attribute o x q) args [] p) σ = (evE n F Γ o σ).bind fun p => (deref p.2 p.1).bind fun a0 => if methHead x a0 then (evEs n F Γ args p.2).bind fun q => evMeth x p.1 q.1 q.2 else none := rfl
theorem eE_call : evE (n + 1) F Γ (.Call (.Name x q) args [] p) σ = (evEs n F Γ args σ).bind fun q => match F x with
        | some fn => fn q.1 q.2
        | none => (q.1.mapM (deref q.2)).bind fun as => (builtinD x as).map fun d => (d, q.2) := rfl
theorem eE_comp {ifs : List Expr} {a : Int} {gs : List Comprehension} {sc : Scope} : evE (n + 1) F Γ (.ListComp e (⟨t, i, ifs, a⟩ :: gs) sc p) σ = (evE n F Γ i σ).bind fun p => (deref p.2 p.1).bind fun src => (itemsSrc p.1 src).bind fun items =>
        (compL p.1 (fun d σ => (assignT t d (capt sc Γ)).bind fun Γ1 => (evB n F Γ1 .And ifs σ).bind fun q => if q.1 then evG n F Γ1 e gs q.2 else some ([], q.2)) items p.2).bind fun p =>
          if p.1.length ≤ 1000 then some (.lst p.1, p.2) else none := rfl
theorem eEs_nil : evEs (n + 1) F Γ [] σ = some ([], σ) := rfl
theorem eEs_cons : evEs (n + 1) F Γ (e :: es) σ = (evE n F Γ e σ).bind fun p => (evEs n F Γ es p.2).bind fun q => some (p.1 :: q.1, q.2) := rfl
theorem eO_none : evO (n + 1) F Γ none σ = some (none, σ) := rfl
theorem eO_some : evO (n + 1) F Γ (some e) σ = (evE n F Γ e σ).bind fun p => match p.1 with
      | .int i => some (some i, p.2)
      | _ => none := rfl
theorem eV_one {op : BoolOp} : evV (n + 1) F Γ op [e] σ = evE n F Γ e σ := rfl
theorem eV_and : evV (n + 1) F Γ .And (e :: l :: es) σ = (evE n F Γ e σ).bind fun p => match BoolOp.And, p.1 with
      | .And, .bool false => some (.bool false, p.2)
      | .Or, .bool true => some (.bool true, p.2)
      | _, .bool _ => evV n F Γ .And (l :: es) p.2
      | _, _ => none := rfl
theorem eV_or : evV (n + 1) F Γ .Or (e :: l :: es) σ = (evE n F Γ e σ).bind fun p => match BoolOp.Or, p.1 with
      | .And, .bool false => some (.bool false, p.2)
      | .Or, .bool true => some (.bool true, p.2)
      | _, .bool _ => evV n F Γ .Or (l :: es) p.2
      | _, _ => none := rfl
theorem eT_cmp {op : CmpOp} : evT (n + 1) F Γ (.Compare l [op] [r] p) σ = (evE n F Γ l σ).bind fun p => (evE n F Γ r p.2).bind fun q => (cmpD q.2 op p.1 q.1).map fun b => (b, q.2) := rfl
theorem eT_bool {op : BoolOp} : evT (n + 1) F Γ (.BoolOp op es p) σ = evB n F Γ op es σ := rfl
theorem eB_nil {op : BoolOp} : evB (n + 1) F Γ op [] σ = some (op == .And, σ) := rfl
theorem eB_cons {op : BoolOp} : evB (n + 1) F Γ op (e :: es) σ = (evT n F Γ e σ).bind fun p => match op, p.1 with
      | .And, false => some (false, p.2)
      | .Or, true => some (true, p.2)
      | _, _ => evB n F Γ op es p.2 := rfl
theorem eG_nil : evG (n + 1) F Γ e [] σ = (evE n F Γ e σ).bind fun p => if p.1.isLoc then none else some ([p.1], p.2) := rfl
theorem eG_cons {ifs : List Expr} {a : Int} {gs : List Comprehension} : evG (n + 1) F Γ e (⟨t, i, ifs, a⟩ :: gs) σ = (evE n F Γ i σ).bind fun p => (deref p.2 p.1).bind fun src => (itemsSrc p.1 src).bind fun items =>
        compL p.1 (fun d σ => (assignT t d Γ).bind fun Γ1 => (evB n F Γ1 .And ifs σ).bind fun q => if q.1 then evG n F Γ1 e gs q.2 else some ([], q.2)) items p.2 := rfl
theorem eF_list : evF n F Γ (.List es p) σ = (evEs n F Γ es σ).bind fun p => if plainAll p.1 && p.1.length ≤ 1000 then some (.lst p.1, p.2) else none := rfl
theorem eF_dict {ks : List (Option Expr)} : evF n F Γ (.Dict ks es p) σ = if ks.length ≤ 15 then (evPairs n F Γ ks es σ).bind fun p => (dictOfPairs p.1 []).bind fun kvs => some (.dct kvs, p.2) else none := rfl
theorem eP_cons {ks : List (Option Expr)} : evPairs n F Γ (some e :: ks) (v :: es) σ = (evE n F Γ e σ).bind fun p => (evE n F Γ v p.2).bind fun q => (evPairs n F Γ ks es q.2).bind fun r => some ((p.1, q.1) :: r.1, r.2) := rfl
theorem eP_nil : evPairs n F Γ [] [] σ = some ([], σ) := rfl
theorem eFs_nil : evFs n F mv Γ [] [] σ = some ([], σ) := rfl
theorem eFs_cons : evFs n F mv Γ (t :: rs) (e :: es) σ = if tDisp mv t e then (evF n F Γ e σ).bind fun p => (evFs n F mv Γ rs es (p.2 ++ [p.1])).bind fun q => some (.loc p.2.length :: q.1, q.2)
    else (evE n F Γ e σ).bind fun p => if p.1.isLoc then none else (evFs n F mv Γ rs es p.2).bind fun q => some (p.1 :: q.1, q.2) := rfl
theorem eA_name : exAssign n F mv (.Name x p) e Γ σ = if tDisp mv (.Name x p) e then (evF n F Γ e σ).bind fun p => some (.next, upd Γ x (.loc p.2.length), p.2 ++ [p.1])
      else (evE n F Γ e σ).bind fun p => if p.1.isLoc then none else some (.next, upd Γ x p.1, p.2) := rfl
theorem eA_tt {k' : Nat} : exAssign n F mv (.Tuple rs k p) (.Tuple es k' q) Γ σ = (evFs n F mv Γ rs es σ).bind fun p => (assignNames rs p.1 Γ).bind fun Γ1 => some (.next, Γ1, p.2) := rfl
theorem eA_tc {ks : List Keyword} : exAssign n F mv (.Tuple rs k p) (.Call e es ks q) Γ σ = (evE n F Γ (.Call e es ks q) σ).bind fun d => (assignT (.Tuple rs k p) d.1 Γ).bind fun Γ1 => some (.next, Γ1, d.2) := rfl
theorem eA_ts : exAssign n F mv (.Tuple rs k p) (.Subscript v i q) Γ σ = (evE n F Γ (.Subscript v i q) σ).bind fun d => (assignT (.Tuple rs k p) d.1 Γ).bind fun Γ1 => some (.next, Γ1, d.2) := rfl
theorem eA_sub : exAssign n F mv (.Subscript (.Name x q) i p) e Γ σ = (evE n F Γ e σ).bind fun p => (evE n F Γ i p.2).bind fun q => match Γ x, keyOf q.1 with
      | some (.loc k), some key => match q.2[k]? with
        | some (.dct kvs) => if kindsOk key kvs && !p.1.isLoc && kvs.length ≤ 1000 then some (.next, Γ, q.2.set k (.dct (assocSet kvs key p.1))) else none
        | _ => none
      | _, _ => none := rfl
theorem eU_name : exAug n F (.Name x p) e Γ σ = (evE n F Γ e σ).bind fun p => match Γ x, p.1 with
      | some (.loc k), .lst r => match p.2[k]? with
        | some (.lst l) => if l.length + r.length ≤ 1000 then some (.next, Γ, p.2.set k (.lst (l ++ r))) else none
        | _ => none
      | _, _ => none := rfl
theorem eU_sub : exAug n F (.Subscript (.Name x q) i p) e Γ σ = (evE n F Γ i σ).bind fun q => match Γ x, keyOf q.1 with
      | some (.loc k), some key => match q.2[k]? with
        | some (.dct kvs) => if kindsOk key kvs && kvs.length ≤ 1000 then match assocGet kvs key, e with
            | some (.int a), .Constant (.int b) _ _ => some (.next, Γ, q.2.set k (.dct (assocSet kvs key (.int (a + b)))))
            | _, _ => none
          else none
        | _ => none
      | _, _ => none := rfl
end
section
variable {n : Nat} {F : Fns} {Γ : Ctx} {σ : Store} {mv : List Str} {e t i : Expr} {p : Pos} {b o ss : List Stmt} {s : Stmt}
theorem eS_assign : exS (n + 1) F mv (.Assign [t] e p) Γ σ = exAssign n F mv t e Γ σ := rfl
theorem eS_aug : exS (n + 1) F mv (.AugAssign t .Add e p) Γ σ = exAug n F t e Γ σ := rfl
theorem eS_ret : exS (n + 1) F mv (.Return (some e) p) Γ σ = (evE n F Γ e σ).bind fun p => some (.ret p.1, Γ, p.2) := rfl
theorem eS_expr : exS (n + 1) F mv (.Expr e p) Γ σ = (evE n F Γ e σ).bind fun p => some (.next, Γ, p.2) := rfl
theorem eS_if : exS (n + 1) F mv (.If t b o p) Γ σ = (evT n F Γ t σ).bind fun p => if p.1 then exSs n F mv b Γ p.2 else exSs n F mv o Γ p.2 := rfl
theorem eS_while : exS (n + 1) F mv (.While t b [] p) Γ σ = whileL (fun Γ σ => evT n F Γ t σ) (fun Γ σ => exSs n F mv b Γ σ) wfuel Γ σ := rfl
theorem eS_for : exS (n + 1) F mv (.For t i b [] p) Γ σ = match frozenDict Γ σ i with
        | some (x, k, kvs) => (itemsOf (.dct kvs)).bind fun items => forL .nil t (fun Γ σ => exSs n F mv b Γ σ) items (upd Γ x (.dct kvs)) (σ.set k .nil)
        | none => (evE n F Γ i σ).bind fun p => (deref p.2 p.1).bind fun src => (itemsSrc p.1 src).bind fun items =>
          forL p.1 t (fun Γ σ => exSs n F mv b Γ σ) items Γ p.2 := rfl
theorem eS_cont : exS (n + 1) F mv (.Continue p) Γ σ = some (.cont, Γ, σ) := rfl
theorem eS_brk : exS (n + 1) F mv (.Break p) Γ σ = some (.brk, Γ, σ) := rfl
theorem eSs_nil : exSs (n + 1) F mv [] Γ σ = some (.next, Γ, σ) := rfl
theorem eSs_cons : exSs (n + 1) F mv (s :: ss) Γ σ = match exS n F mv s Γ σ with
      | some (.next, Γ1, σ1) => exSs n F mv ss Γ1 σ1
      | x => x := rfl
end
end Mine

-- EvK
namespace Mine
open PySem

theorem cmp_in_of {σ : Store} {a c a' v : D} (ha : deref σ a = some a') (hc : deref σ c = some v) : cmpD σ .In a c = memD a' v := by
  show (deref σ a).bind _ = _
  rw [ha]
  show (deref σ c).bind _ = _
  rw [hc]
  rfl
theorem cmp_notin_of {σ : Store} {a c a' v : D} (ha : deref σ a = some a') (hc : deref σ c = some v) : cmpD σ .NotIn a c = (memD a' v).map (!·) := by
  show (deref σ a).bind _ = _
  rw [ha]
  show (deref σ c).bind _ = _
  rw [hc]
  rfl
theorem kY_str {x : Str} : keyOf (.str x) = some (.s x) := rfl
theorem kY_int {n : Int} : keyOf (.int n) = some (.i n) := rfl
theorem sD_str {kvs : List (Key × D)} {x : Str} : subD (.dct kvs) (.str x) = if kindsOk (.s x) kvs then assocGet kvs (.s x) else none := rfl
theorem sD_int {kvs : List (Key × D)} {x : Int} : subD (.dct kvs) (.int x) = if kindsOk (.i x) kvs then assocGet kvs (.i x) else none := rfl
theorem dP_nil {acc : List (Key × D)} : dictOfPairs [] acc = some acc := rfl
theorem dP_cons {k : Str} {v : D} {r : List (D × D)} {acc : List (Key × D)} : dictOfPairs ((.str k, v) :: r) acc = if v.isLoc then none else dictOfPairs r (assocSet acc (.s k) v) := rfl
/-! ## the evaluator's steps, each rest of a form a constant of its own: what is not yet reached is not looked at -/
noncomputable abbrev R2 := Option (D × Store)
noncomputable def kRet (σ : Store) (x : Option D) : R2 := x.map fun d => (d, σ)
noncomputable def kTup (x : Option (List D × Store)) : R2 := x.bind fun p => if plainAll p.1 && p.1.length ≤ 1000 then some (.tup p.1, p.2) else none
noncomputable def kLst (x : Option (List D × Store)) : R2 := x.bind fun p => if plainAll p.1 && p.1.length ≤ 1000 then some (.lst p.1, p.2) else none
noncomputable def kBin2 (op : Operator) (d : D) (x : R2) : R2 := x.bind fun q => kRet q.2 (binD op d q.1)
noncomputable def kBin1 (n : Nat) (F : Fns) (Γ : Ctx) (op : Operator) (r : Expr) (x : R2) : R2 := x.bind fun p => kBin2 op p.1 (evE n F Γ r p.2)
noncomputable def kNeg (x : R2) : R2 := x.bind fun p => match p.1 with | .int i => some (.int (-i), p.2) | _ => none
noncomputable def kIfE (n : Nat) (F : Fns) (Γ : Ctx) (b o : Expr) (x : Option (Bool × Store)) : R2 := x.bind fun p => if p.1 then evE n F Γ b p.2 else evE n F Γ o p.2
noncomputable def kB (σ : Store) (x : Option Bool) : R2 := x.map fun b => (.bool b, σ)
noncomputable def kCmp2 (op : CmpOp) (d : D) (x : R2) : R2 := x.bind fun q => kB q.2 (cmpD q.2 op d q.1)
noncomputable def kCmp1 (n : Nat) (F : Fns) (Γ : Ctx) (op : CmpOp) (r : Expr) (x : R2) : R2 := x.bind fun p => kCmp2 op p.1 (evE n F Γ r p.2)
noncomputable def kSl4 (lo hi : Option Int) (σ : Store) (x : Option D) : R2 := x.bind fun a => kRet σ (sliceD a lo hi)
noncomputable def kSl3 (d : D) (lo : Option Int) (x : Option (Option Int × Store)) : R2 := x.bind fun r => kSl4 lo r.1 r.2 (deref r.2 d)
noncomputable def kSl2 (n : Nat) (F : Fns) (Γ : Ctx) (hi : Option Expr) (d : D) (x : Option (Option Int × Store)) : R2 := x.bind fun q => kSl3 d q.1 (evO n F Γ hi q.2)
noncomputable def kSl1 (n : Nat) (F : Fns) (Γ : Ctx) (lo hi : Option Expr) (x : R2) : R2 := x.bind fun p => kSl2 n F Γ hi p.1 (evO n F Γ lo p.2)
noncomputable def kSub3 (k : D) (σ : Store) (x : Option D) : R2 := x.bind fun a => kRet σ (subD a k)
noncomputable def kSub2 (d : D) (x : R2) : R2 := x.bind fun q => kSub3 q.1 q.2 (deref q.2 d)
noncomputable def kSub1 (n : Nat) (F : Fns) (Γ : Ctx) (i : Expr) (x : R2) : R2 := x.bind fun p => kSub2 p.1 (evE n F Γ i p.2)
noncomputable def kM3 (m : Str) (d : D) (x : Option (List D × Store)) : R2 := x.bind fun q => evMeth m d q.1 q.2
noncomputable def kM2 (n : Nat) (F : Fns) (Γ : Ctx) (m : Str) (args : List Expr) (d : D) (σ : Store) (x : Option D) : R2 := x.bind fun a0 => if methHead m a0 then kM3 m d (evEs n F Γ args σ) else none
noncomputable def kM1 (n : Nat) (F : Fns) (Γ : Ctx) (m : Str) (args : List Expr) (x : R2) : R2 := x.bind fun p => kM2 n F Γ m args p.1 p.2 (deref p.2 p.1)
noncomputable def kC3 (f : Str) (σ : Store) (x : Option D) : R2 := x.bind fun a => kRet σ (builtinD f [a])
noncomputable def kC2 (f : Str) (σ : Store) (x : Option (List D)) : R2 := x.bind fun as => kRet σ (builtinD f as)
noncomputable def kC1 (f : Str) (fn : Option Fn) (x : Option (List D × Store)) : R2 := x.bind fun q => match fn with
  | some fn => fn q.1 q.2
  | none => kC2 f q.2 (q.1.mapM (deref q.2))
noncomputable def kF2 (n : Nat) (F : Fns) (Γ1 : Ctx) (gs : List Comprehension) (e : Expr) (x : Option (Bool × Store)) : Option (List D × Store) := x.bind fun q => if q.1 then evG n F Γ1 e gs q.2 else some ([], q.2)
noncomputable def kF1 (n : Nat) (F : Fns) (ifs : List Expr) (gs : List Comprehension) (e : Expr) (σ : Store) (x : Option Ctx) : Option (List D × Store) := x.bind fun Γ1 => kF2 n F Γ1 gs e (evB n F Γ1 .And ifs σ)
noncomputable def compF (n : Nat) (F : Fns) (Γ0 : Ctx) (t : Expr) (ifs : List Expr) (gs : List Comprehension) (e : Expr) (d : D) (σ : Store) : Option (List D × Store) := kF1 n F ifs gs e σ (assignT t d Γ0)
noncomputable def kCo4 (x : Option (List D × Store)) : R2 := x.bind fun p => if p.1.length ≤ 1000 then some (.lst p.1, p.2) else none
noncomputable def kCo3 (f : D → Store → Option (List D × Store)) (p : D) (σ : Store) (x : Option (List D)) : R2 := x.bind fun items => kCo4 (compL p f items σ)
noncomputable def kCo2 (f : D → Store → Option (List D × Store)) (p : D) (σ : Store) (x : Option D) : R2 := x.bind fun src => kCo3 f p σ (itemsSrc p src)
noncomputable def kCo1 (f : D → Store → Option (List D × Store)) (x : R2) : R2 := x.bind fun p => kCo2 f p.1 p.2 (deref p.2 p.1)
noncomputable def kE2 (d : D) (x : Option (List D × Store)) : Option (List D × Store) := x.bind fun q => some (d :: q.1, q.2)
noncomputable def kE1 (n : Nat) (F : Fns) (Γ : Ctx) (es : List Expr) (x : R2) : Option (List D × Store) := x.bind fun p => kE2 p.1 (evEs n F Γ es p.2)
noncomputable def kO (x : R2) : Option (Option Int × Store) := x.bind fun p => match p.1 with
  | .int i => some (some i, p.2)
  | _ => none
noncomputable def kVa (n : Nat) (F : Fns) (Γ : Ctx) (es : List Expr) (x : R2) : R2 := x.bind fun p => match BoolOp.And, p.1 with
  | .And, .bool false => some (.bool false, p.2)
  | .Or, .bool true => some (.bool true, p.2)
  | _, .bool _ => evV n F Γ .And es p.2
  | _, _ => none
noncomputable def kVo (n : Nat) (F : Fns) (Γ : Ctx) (es : List Expr) (x : R2) : R2 := x.bind fun p => match BoolOp.Or, p.1 with
  | .And, .bool false => some (.bool false, p.2)
  | .Or, .bool true => some (.bool true, p.2)
  | _, .bool _ => evV n F Γ .Or es p.2
  | _, _ => none
noncomputable def kTB (σ : Store) (x : Option Bool) : Option (Bool × Store) := x.map fun b => (b, σ)
noncomputable def kT2 (op : CmpOp) (d : D) (x : R2) : Option (Bool × Store) := x.bind fun q => kTB q.2 (cmpD q.2 op d q.1)
noncomputable def kT1 (n : Nat) (F : Fns) (Γ : Ctx) (op : CmpOp) (r : Expr) (x : R2) : Option (Bool × Store) := x.bind fun p => kT2 op p.1 (evE n F Γ r p.2)
noncomputable def kBa (n : Nat) (F : Fns) (Γ : Ctx) (es : List Expr) (x : Option (Bool × Store)) : Option (Bool × Store) := x.bind fun p => match BoolOp.And, p.1 with
  | .And, false => some (false, p.2)
  | .Or, true => some (true, p.2)
  | _, _ => evB n F Γ .And es p.2
noncomputable def kBo (n : Nat) (F : Fns) (Γ : Ctx) (es : List Expr) (x : Option (Bool × Store)) : Option (Bool × Store) := x.bind fun p => match BoolOp.Or, p.1 with
  | .And, false => some (false, p.2)
  | .Or, true => some (true, p.2)
  | _, _ => evB n F Γ .Or es p.2
noncomputable def kG (x : R2) : Option (List D × Store) := x.bind fun p => if p.1.isLoc then none else some ([p.1], p.2)
noncomputable def kG3 (f : D → Store → Option (List D × Store)) (p : D) (σ : Store) (x : Option (List D)) : Option (List D × Store) := x.bind fun items => compL p f items σ
noncomputable def kG2 (f : D → Store → Option (List D × Store)) (p : D) (σ : Store) (x : Option D) : Option (List D × Store) := x.bind fun src => kG3 f p σ (itemsSrc p src)
noncomputable def kG1 (f : D → Store → Option (List D × Store)) (x : R2) : Option (List D × Store) := x.bind fun p => kG2 f p.1 p.2 (deref p.2 p.1)
noncomputable def kD2 (σ : Store) (x : Option (List (Key × D))) : R2 := x.bind fun kvs => some (.dct kvs, σ)
noncomputable def kD1 (x : Option (List (D × D) × Store)) : R2 := x.bind fun p => kD2 p.2 (dictOfPairs p.1 [])
noncomputable def kP3 (d e : D) (x : Option (List (D × D) × Store)) : Option (List (D × D) × Store) := x.bind fun r => some ((d, e) :: r.1, r.2)
noncomputable def kP2 (n : Nat) (F : Fns) (Γ : Ctx) (ks : List (Option Expr)) (vs : List Expr) (d : D) (x : R2) : Option (List (D × D) × Store) := x.bind fun q => kP3 d q.1 (evPairs n F Γ ks vs q.2)
noncomputable def kP1 (n : Nat) (F : Fns) (Γ : Ctx) (ks : List (Option Expr)) (v : Expr) (vs : List Expr) (x : R2) : Option (List (D × D) × Store) := x.bind fun p => kP2 n F Γ ks vs p.1 (evE n F Γ v p.2)
noncomputable def kFs2 (k : Nat) (x : Option (List D × Store)) : Option (List D × Store) := x.bind fun q => some (.loc k :: q.1, q.2)
noncomputable def kFs1 (n : Nat) (F : Fns) (mv : List Str) (Γ : Ctx) (ts es : List Expr) (x : R2) : Option (List D × Store) := x.bind fun p => kFs2 p.2.length (evFs n F mv Γ ts es (p.2 ++ [p.1]))
noncomputable def kFs3 (n : Nat) (F : Fns) (mv : List Str) (Γ : Ctx) (ts es : List Expr) (x : R2) : Option (List D × Store) := x.bind fun p => if p.1.isLoc then none else kE2 p.1 (evFs n F mv Γ ts es p.2)
noncomputable def kAd (x : Str) (Γ : Ctx) (y : R2) : Res := y.bind fun p => some (.next, upd Γ x (.loc p.2.length), p.2 ++ [p.1])
noncomputable def kAe (x : Str) (Γ : Ctx) (y : R2) : Res := y.bind fun p => if p.1.isLoc then none else some (.next, upd Γ x p.1, p.2)
noncomputable def kAt2 (σ : Store) (x : Option Ctx) : Res := x.bind fun Γ1 => some (.next, Γ1, σ)
noncomputable def kAt (ts : List Expr) (Γ : Ctx) (x : Option (List D × Store)) : Res := x.bind fun p => kAt2 p.2 (assignNames ts p.1 Γ)
noncomputable def kAc (ts : List Expr) (k : Nat) (q : Pos) (Γ : Ctx) (x : R2) : Res := x.bind fun p => kAt2 p.2 (assignT (.Tuple ts k q) p.1 Γ)
noncomputable def kAs4 (Γ : Ctx) (d : D) (σ : Store) (k : Nat) (key : Key) (x : Option D) : Res := match x with
  | some (.dct kvs) => if kindsOk key kvs && !d.isLoc && kvs.length ≤ 1000 then some (.next, Γ, σ.set k (.dct (assocSet kvs key d))) else none
  | _ => none
noncomputable def kAs3 (Γ : Ctx) (d : D) (σ : Store) (x : Option D) (y : Option Key) : Res := match x, y with
  | some (.loc k), some key => kAs4 Γ d σ k key σ[k]?
  | _, _ => none
noncomputable def kAs2 (Γ : Ctx) (x : Str) (d : D) (y : R2) : Res := y.bind fun q => kAs3 Γ d q.2 (Γ x) (keyOf q.1)
noncomputable def kAs1 (n : Nat) (F : Fns) (Γ : Ctx) (x : Str) (i : Expr) (y : R2) : Res := y.bind fun p => kAs2 Γ x p.1 (evE n F Γ i p.2)
noncomputable def kU3 (Γ : Ctx) (r : List D) (σ : Store) (k : Nat) (x : Option D) : Res := match x with
  | some (.lst l) => if l.length + r.length ≤ 1000 then some (.next, Γ, σ.set k (.lst (l ++ r))) else none
  | _ => none
noncomputable def kU2 (Γ : Ctx) (σ : Store) (x : Option D) (d : D) : Res := match x, d with
  | some (.loc k), .lst r => kU3 Γ r σ k σ[k]?
  | _, _ => none
noncomputable def kU1 (Γ : Ctx) (x : Str) (y : R2) : Res := y.bind fun p => kU2 Γ p.2 (Γ x) p.1
noncomputable def kW4 (Γ : Ctx) (σ : Store) (k : Nat) (key : Key) (kvs : List (Key × D)) (e : Expr) (x : Option D) : Res := match x, e with
  | some (.int a), .Constant (.int b) _ _ => some (.next, Γ, σ.set k (.dct (assocSet kvs key (.int (a + b)))))
  | _, _ => none
noncomputable def kW3 (Γ : Ctx) (e : Expr) (σ : Store) (k : Nat) (key : Key) (x : Option D) : Res := match x with
  | some (.dct kvs) => if kindsOk key kvs && kvs.length ≤ 1000 then kW4 Γ σ k key kvs e (assocGet kvs key) else none
  | _ => none
noncomputable def kW2 (Γ : Ctx) (e : Expr) (σ : Store) (x : Option D) (y : Option Key) : Res := match x, y with
  | some (.loc k), some key => kW3 Γ e σ k key σ[k]?
  | _, _ => none
noncomputable def kW1 (Γ : Ctx) (x : Str) (e : Expr) (y : R2) : Res := y.bind fun q => kW2 Γ e q.2 (Γ x) (keyOf q.1)
noncomputable def kR (Γ : Ctx) (x : R2) : Res := x.bind fun p => some (.ret p.1, Γ, p.2)
noncomputable def kX (Γ : Ctx) (x : R2) : Res := x.bind fun p => some (.next, Γ, p.2)
noncomputable def kI (n : Nat) (F : Fns) (mv : List Str) (b o : List Stmt) (Γ : Ctx) (x : Option (Bool × Store)) : Res := x.bind fun p => if p.1 then exSs n F mv b Γ p.2 else exSs n F mv o Γ p.2
noncomputable def kFo2 (n : Nat) (F : Fns) (mv : List Str) (t : Expr) (b : List Stmt) (Γ : Ctx) (σ : Store) (p : D) (x : Option (List D)) : Res := x.bind fun items => forL p t (exSs n F mv b) items Γ σ
noncomputable def kFo3 (n : Nat) (F : Fns) (mv : List Str) (t : Expr) (b : List Stmt) (Γ : Ctx) (σ : Store) (p : D) (x : Option D) : Res := x.bind fun src => kFo2 n F mv t b Γ σ p (itemsSrc p src)
noncomputable def kFo1 (n : Nat) (F : Fns) (mv : List Str) (t : Expr) (b : List Stmt) (Γ : Ctx) (x : R2) : Res := x.bind fun p => kFo3 n F mv t b Γ p.2 p.1 (deref p.2 p.1)
noncomputable def kFo (n : Nat) (F : Fns) (mv : List Str) (t i : Expr) (b : List Stmt) (Γ : Ctx) (σ : Store) (x : Option (Str × Nat × List (Key × D))) : Res := match x with
  | some (x, k, kvs) => kFo2 n F mv t b (upd Γ x (.dct kvs)) (σ.set k .nil) .nil (itemsOf (.dct kvs))
  | none => kFo1 n F mv t b Γ (evE n F Γ i σ)
noncomputable def kSq (n : Nat) (F : Fns) (mv : List Str) (ss : List Stmt) (x : Res) : Res := match x with
  | some (.next, Γ1, σ1) => exSs n F mv ss Γ1 σ1
  | x => x

section
variable {n : Nat} {F : Fns} {Γ Γ0 Γ1 : Ctx} {σ : Store} {mv : List Str} {e l r v i t b o : Expr} {es rs args : List Expr} {k : Nat} {p q : Pos} {x m : Str} {z : Int} {d d' a : D} {ds : List D} {c : Bool} {lo hi : Option Int} {f : D → Store → Option (List D × Store)} {ifs : List Expr} {gs : List Comprehension} {y : Int} {kvs : List (Key × D)} {key : Key}
theorem sE_name : evE (n + 1) F Γ (.Name x p) σ = kRet σ (Γ x) := rfl
theorem kRet_some : kRet σ (some d) = some (d, σ) := rfl
theorem sE_tuple : evE (n + 1) F Γ (.Tuple es k p) σ = kTup (evEs n F Γ es σ) := rfl
theorem kTup_some : kTup (some (ds, σ)) = if plainAll ds && ds.length ≤ 1000 then some (.tup ds, σ) else none := rfl
theorem sE_list : evE (n + 1) F Γ (.List es p) σ = kLst (evEs n F Γ es σ) := rfl
theorem kLst_some : kLst (some (ds, σ)) = if plainAll ds && ds.length ≤ 1000 then some (.lst ds, σ) else none := rfl
theorem sE_bin {op : Operator} : evE (n + 1) F Γ (.BinOp l op r p) σ = kBin1 n F Γ op r (evE n F Γ l σ) := rfl
theorem kBin1_some {op : Operator} : kBin1 n F Γ op r (some (d, σ)) = kBin2 op d (evE n F Γ r σ) := rfl
theorem kBin2_some {op : Operator} : kBin2 op d (some (d', σ)) = kRet σ (binD op d d') := rfl
theorem sE_neg : evE (n + 1) F Γ (.UnaryOp .USub e p) σ = kNeg (evE n F Γ e σ) := rfl
theorem kNeg_some : kNeg (some (.int z, σ)) = some (.int (-z), σ) := rfl
theorem sE_if : evE (n + 1) F Γ (.IfExp t b o p) σ = kIfE n F Γ b o (evT n F Γ t σ) := rfl
theorem kIfE_some : kIfE n F Γ b o (some (c, σ)) = if c then evE n F Γ b σ else evE n F Γ o σ := rfl
theorem sE_cmp {op : CmpOp} : evE (n + 1) F Γ (.Compare l [op] [r] p) σ = kCmp1 n F Γ op r (evE n F Γ l σ) := rfl
theorem kCmp1_some {op : CmpOp} : kCmp1 n F Γ op r (some (d, σ)) = kCmp2 op d (evE n F Γ r σ) := rfl
theorem kCmp2_some {op : CmpOp} : kCmp2 op d (some (d', σ)) = kB σ (cmpD σ op d d') := rfl
theorem kB_some : kB σ (some c) = some (.bool c, σ) := rfl
theorem sE_slice {lo hi : Option Expr} : evE (n + 1) F Γ (.Subscript v (.Slice lo hi none q) p) σ = kSl1 n F Γ lo hi (evE n F Γ v σ) := rfl
theorem kSl1_some {lo hi : Option Expr} : kSl1 n F Γ lo hi (some (d, σ)) = kSl2 n F Γ hi d (evO n F Γ lo σ) := rfl
theorem kSl2_some {hi : Option Expr} : kSl2 n F Γ hi d (some (lo, σ)) = kSl3 d lo (evO n F Γ hi σ) := rfl
theorem kSl3_some : kSl3 d lo (some (hi, σ)) = kSl4 lo hi σ (deref σ d) := rfl
theorem kSl4_some : kSl4 lo hi σ (some a) = kRet σ (sliceD a lo hi) := rfl
theorem sE_subN : evE (n + 1) F Γ (.Subscript v (.Name x q) p) σ = kSub1 n F Γ (.Name x q) (evE n F Γ v σ) := rfl
theorem sE_subC {c : Const} : evE (n + 1) F Γ (.Subscript v (.Constant c k q) p) σ = kSub1 n F Γ (.Constant c k q) (evE n F Γ v σ) := rfl
theorem sE_subT : evE (n + 1) F Γ (.Subscript v (.Tuple es k q) p) σ = kSub1 n F Γ (.Tuple es k q) (evE n F Γ v σ) := rfl
theorem sE_subU {op : UnaryOp} : evE (n + 1) F Γ (.Subscript v (.UnaryOp op e q) p) σ = kSub1 n F Γ (.UnaryOp op e q) (evE n F Γ v σ) := rfl
theorem sE_subB {op : Operator} : evE (n + 1) F Γ (.Subscript v (.BinOp l op r q) p) σ = kSub1 n F Γ (.BinOp l op r q) (evE n F Γ v σ) := rfl
theorem sE_subS : evE (n + 1) F Γ (.Subscript v (.Subscript l i q) p) σ = kSub1 n F Γ (.Subscript l i q) (evE n F Γ v σ) := rfl
theorem sE_subK {ks : List Keyword} : evE (n + 1) F Γ (.Subscript v (.Call l es ks q) p) σ = kSub1 n F Γ (.Call l es ks q) (evE n F Γ v σ) := rfl
theorem kSub1_some : kSub1 n F Γ i (some (d, σ)) = kSub2 d (evE n F Γ i σ) := rfl
theorem kSub2_some : kSub2 d (some (d', σ)) = kSub3 d' σ (deref σ d) := rfl
theorem kSub3_some : kSub3 d σ (some a) = kRet σ (subD a d) := rfl
theorem sE_meth : evE (n + 1) F Γ (.Call (.Attribute o x q) args [] p) σ = kM1 n F Γ x args (evE n F Γ o σ) := rfl
theorem kM1_some : kM1 n F Γ x args (some (d, σ)) = kM2 n F Γ x args d σ (deref σ d) := rfl
theorem kM2_some : kM2 n F Γ x args d σ (some a) = if methHead x a then kM3 x d (evEs n F Γ args σ) else none := rfl
theorem kM3_some : kM3 x d (some (ds, σ)) = evMeth x d ds σ := rfl
theorem sE_call : evE (n + 1) F Γ (.Call (.Name x q) args [] p) σ = kC1 x (F x) (evEs n F Γ args σ) := rfl
theorem kC1_fn {fn : Fn} : kC1 x (some fn) (some (ds, σ)) = fn ds σ := rfl
theorem kC1_bi : kC1 x none (some ([d], σ)) = kC3 x σ (deref σ d) := by
  show kC2 x σ ([d].mapM (deref σ)) = _
  rw [List.mapM_cons, List.mapM_nil]
  cases deref σ d <;> rfl
theorem kC3_some : kC3 x σ (some a) = kRet σ (builtinD x [a]) := rfl
theorem sE_comp {sc : Scope} : evE (n + 1) F Γ (.ListComp e (⟨t, i, ifs, y⟩ :: gs) sc p) σ = kCo1 (compF n F (capt sc Γ) t ifs gs e) (evE n F Γ i σ) := rfl
theorem kCo1_some : kCo1 f (some (d, σ)) = kCo2 f d σ (deref σ d) := rfl
theorem kCo2_some : kCo2 f d σ (some a) = kCo3 f d σ (itemsSrc d a) := rfl
theorem kCo3_some : kCo3 f d σ (some ds) = kCo4 (compL d f ds σ) := rfl
theorem kCo4_some : kCo4 (some (ds, σ)) = if ds.length ≤ 1000 then some (.lst ds, σ) else none := rfl
theorem compF_app : compF n F Γ0 t ifs gs e d σ = kF1 n F ifs gs e σ (assignT t d Γ0) := rfl
theorem kF1_some : kF1 n F ifs gs e σ (some Γ1) = kF2 n F Γ1 gs e (evB n F Γ1 .And ifs σ) := rfl
theorem kF2_some : kF2 n F Γ1 gs e (some (c, σ)) = if c then evG n F Γ1 e gs σ else some ([], σ) := rfl
theorem sEs_cons : evEs (n + 1) F Γ (e :: es) σ = kE1 n F Γ es (evE n F Γ e σ) := rfl
theorem kE1_some : kE1 n F Γ es (some (d, σ)) = kE2 d (evEs n F Γ es σ) := rfl
theorem kE2_some : kE2 d (some (ds, σ)) = some (d :: ds, σ) := rfl
theorem sO_some : evO (n + 1) F Γ (some e) σ = kO (evE n F Γ e σ) := rfl
theorem kO_some : kO (some (.int z, σ)) = some (some z, σ) := rfl
theorem sV_and : evV (n + 1) F Γ .And (e :: l :: es) σ = kVa n F Γ (l :: es) (evE n F Γ e σ) := rfl
theorem kVa_f : kVa n F Γ es (some (.bool false, σ)) = some (.bool false, σ) := rfl
theorem kVa_t : kVa n F Γ es (some (.bool true, σ)) = evV n F Γ .And es σ := rfl
theorem sV_or : evV (n + 1) F Γ .Or (e :: l :: es) σ = kVo n F Γ (l :: es) (evE n F Γ e σ) := rfl
theorem kVo_f : kVo n F Γ es (some (.bool false, σ)) = evV n F Γ .Or es σ := rfl
theorem kVo_t : kVo n F Γ es (some (.bool true, σ)) = some (.bool true, σ) := rfl
theorem sT_cmp {op : CmpOp} : evT (n + 1) F Γ (.Compare l [op] [r] p) σ = kT1 n F Γ op r (evE n F Γ l σ) := rfl
theorem kT1_some {op : CmpOp} : kT1 n F Γ op r (some (d, σ)) = kT2 op d (evE n F Γ r σ) := rfl
theorem kT2_some {op : CmpOp} : kT2 op d (some (d', σ)) = kTB σ (cmpD σ op d d') := rfl
theorem kTB_some : kTB σ (some c) = some (c, σ) := rfl
theorem sB_nila : evB (n + 1) F Γ .And [] σ = some (true, σ) := rfl
theorem sB_nilo : evB (n + 1) F Γ .Or [] σ = some (false, σ) := rfl
theorem sB_and : evB (n + 1) F Γ .And (e :: es) σ = kBa n F Γ es (evT n F Γ e σ) := rfl
theorem sB_or : evB (n + 1) F Γ .Or (e :: es) σ = kBo n F Γ es (evT n F Γ e σ) := rfl
theorem kBa_f : kBa n F Γ es (some (false, σ)) = some (false, σ) := rfl
theorem kBa_t : kBa n F Γ es (some (true, σ)) = evB n F Γ .And es σ := rfl
theorem kBo_f : kBo n F Γ es (some (false, σ)) = evB n F Γ .Or es σ := rfl
theorem kBo_t : kBo n F Γ es (some (true, σ)) = some (true, σ) := rfl
theorem sG_nil : evG (n + 1) F Γ e [] σ = kG (evE n F Γ e σ) := rfl
theorem kG_some : kG (some (d, σ)) = if d.isLoc then none else some ([d], σ) := rfl
theorem sG_cons : evG (n + 1) F Γ e (⟨t, i, ifs, y⟩ :: gs) σ = kG1 (compF n F Γ t ifs gs e) (evE n F Γ i σ) := rfl
theorem kG1_some : kG1 f (some (d, σ)) = kG2 f d σ (deref σ d) := rfl
theorem kG2_some : kG2 f d σ (some a) = kG3 f d σ (itemsSrc d a) := rfl
theorem kG3_some : kG3 f d σ (some ds) = compL d f ds σ := rfl
theorem sF_list : evF n F Γ (.List es p) σ = kLst (evEs n F Γ es σ) := rfl
theorem sF_dict {ks : List (Option Expr)} : evF n F Γ (.Dict ks es p) σ = if ks.length ≤ 15 then kD1 (evPairs n F Γ ks es σ) else none := rfl
theorem kD1_some {ps : List (D × D)} : kD1 (some (ps, σ)) = kD2 σ (dictOfPairs ps []) := rfl
theorem kD2_some : kD2 σ (some kvs) = some (.dct kvs, σ) := rfl
theorem sP_cons {ks : List (Option Expr)} : evPairs n F Γ (some e :: ks) (v :: es) σ = kP1 n F Γ ks v es (evE n F Γ e σ) := rfl
theorem kP1_some {ks : List (Option Expr)} : kP1 n F Γ ks v es (some (d, σ)) = kP2 n F Γ ks es d (evE n F Γ v σ) := rfl
theorem kP2_some {ks : List (Option Expr)} : kP2 n F Γ ks es d (some (d', σ)) = kP3 d d' (evPairs n F Γ ks es σ) := rfl
theorem kP3_some {ps : List (D × D)} : kP3 d d' (some (ps, σ)) = some ((d, d') :: ps, σ) := rfl
theorem sFs_cons : evFs n F mv Γ (t :: rs) (e :: es) σ = if tDisp mv t e then kFs1 n F mv Γ rs es (evF n F Γ e σ) else kFs3 n F mv Γ rs es (evE n F Γ e σ) := rfl
theorem kFs1_some : kFs1 n F mv Γ rs es (some (d, σ)) = kFs2 σ.length (evFs n F mv Γ rs es (σ ++ [d])) := rfl
theorem kFs2_some : kFs2 k (some (ds, σ)) = some (.loc k :: ds, σ) := rfl
theorem kFs3_some : kFs3 n F mv Γ rs es (some (d, σ)) = if d.isLoc then none else kE2 d (evFs n F mv Γ rs es σ) := rfl
theorem sA_name : exAssign n F mv (.Name x p) e Γ σ = if tDisp mv (.Name x p) e then kAd x Γ (evF n F Γ e σ) else kAe x Γ (evE n F Γ e σ) := rfl
theorem kAd_some : kAd x Γ (some (d, σ)) = some (.next, upd Γ x (.loc σ.length), σ ++ [d]) := rfl
theorem kAe_some : kAe x Γ (some (d, σ)) = if d.isLoc then none else some (.next, upd Γ x d, σ) := rfl
theorem sA_tt {k' : Nat} : exAssign n F mv (.Tuple rs k p) (.Tuple es k' q) Γ σ = kAt rs Γ (evFs n F mv Γ rs es σ) := rfl
theorem kAt_some : kAt rs Γ (some (ds, σ)) = kAt2 σ (assignNames rs ds Γ) := rfl
theorem kAt2_some : kAt2 σ (some Γ) = some (.next, Γ, σ) := rfl
theorem sA_tc {ks : List Keyword} : exAssign n F mv (.Tuple rs k p) (.Call e es ks q) Γ σ = kAc rs k p Γ (evE n F Γ (.Call e es ks q) σ) := rfl
theorem sA_ts : exAssign n F mv (.Tuple rs k p) (.Subscript v i q) Γ σ = kAc rs k p Γ (evE n F Γ (.Subscript v i q) σ) := rfl
theorem kAc_some : kAc rs k p Γ (some (d, σ)) = kAt2 σ (assignT (.Tuple rs k p) d Γ) := rfl
theorem sA_sub : exAssign n F mv (.Subscript (.Name x q) i p) e Γ σ = kAs1 n F Γ x i (evE n F Γ e σ) := rfl
theorem kAs1_some : kAs1 n F Γ x i (some (d, σ)) = kAs2 Γ x d (evE n F Γ i σ) := rfl
theorem kAs2_some : kAs2 Γ x d (some (d', σ)) = kAs3 Γ d σ (Γ x) (keyOf d') := rfl
theorem kAs3_some : kAs3 Γ d σ (some (.loc k)) (some key) = kAs4 Γ d σ k key σ[k]? := rfl
theorem kAs4_some : kAs4 Γ d σ k key (some (.dct kvs)) = if kindsOk key kvs && !d.isLoc && kvs.length ≤ 1000 then some (.next, Γ, σ.set k (.dct (assocSet kvs key d))) else none := rfl
theorem sU_name : exAug n F (.Name x p) e Γ σ = kU1 Γ x (evE n F Γ e σ) := rfl
theorem kU1_some : kU1 Γ x (some (d, σ)) = kU2 Γ σ (Γ x) d := rfl
theorem kU2_some : kU2 Γ σ (some (.loc k)) (.lst ds) = kU3 Γ ds σ k σ[k]? := rfl
theorem kU3_some {l : List D} : kU3 Γ ds σ k (some (.lst l)) = if l.length + ds.length ≤ 1000 then some (.next, Γ, σ.set k (.lst (l ++ ds))) else none := rfl
theorem sU_sub : exAug n F (.Subscript (.Name x q) i p) e Γ σ = kW1 Γ x e (evE n F Γ i σ) := rfl
theorem kW1_some : kW1 Γ x e (some (d, σ)) = kW2 Γ e σ (Γ x) (keyOf d) := rfl
theorem kW2_some : kW2 Γ e σ (some (.loc k)) (some key) = kW3 Γ e σ k key σ[k]? := rfl
theorem kW3_some : kW3 Γ e σ k key (some (.dct kvs)) = if kindsOk key kvs && kvs.length ≤ 1000 then kW4 Γ σ k key kvs e (assocGet kvs key) else none := rfl
theorem kW4_some {j : Nat} {h : Int} : kW4 Γ σ k key kvs (.Constant (.int z) j p) (some (.int h)) = some (.next, Γ, σ.set k (.dct (assocSet kvs key (.int (h + z))))) := rfl
theorem aT_name : assignT (.Name x p) d Γ = some (upd Γ x d) := rfl
theorem aT_tup : assignT (.Tuple rs k p) (.tup ds) Γ = assignNames rs ds Γ := rfl
theorem aN_nil : assignNames [] [] Γ = some Γ := rfl
theorem aN_cons : assignNames (.Name x p :: rs) (d :: ds) Γ = assignNames rs ds (upd Γ x d) := rfl
theorem tD_name : tDisp mv (.Name x p) e = (mv.contains x && isDisplay e) := rfl
theorem iD_list : isDisplay (.List es p) = true := rfl
theorem iD_dict {ks : List (Option Expr)} : isDisplay (.Dict ks es p) = true := rfl
theorem iD_call {ks : List Keyword} : isDisplay (.Call e es ks p) = false := rfl
theorem iD_comp {sc : Scope} : isDisplay (.ListComp e gs sc p) = false := rfl
theorem iD_bin {op : Operator} : isDisplay (.BinOp l op r p) = false := rfl
theorem iD_sub : isDisplay (.Subscript v i p) = false := rfl
theorem iD_name : isDisplay (.Name x p) = false := rfl
theorem iD_const {c : Const} : isDisplay (.Constant c k p) = false := rfl
theorem iD_tuple : isDisplay (.Tuple es k p) = false := rfl
theorem iD_if : isDisplay (.IfExp t b o p) = false := rfl
theorem iD_neg {op : UnaryOp} : isDisplay (.UnaryOp op e p) = false := rfl
theorem iD_boolop {op : BoolOp} : isDisplay (.BoolOp op es p) = false := rfl
theorem iD_cmp {ops : List CmpOp} : isDisplay (.Compare l ops es p) = false := rfl
theorem fz_name : frozenDict Γ σ (.Name x p) = match Γ x with
    | some (.loc k) => match σ[k]? with
      | some (.dct kvs) => some (x, k, kvs)
      | _ => none
    | _ => none := rfl
theorem fz_call {ks : List Keyword} : frozenDict Γ σ (.Call e es ks p) = none := rfl
theorem fz_list : frozenDict Γ σ (.List es p) = none := rfl
theorem fz_comp {sc : Scope} : frozenDict Γ σ (.ListComp e gs sc p) = none := rfl
theorem fz_sub : frozenDict Γ σ (.Subscript v i p) = none := rfl
theorem fz_bin {op : Operator} : frozenDict Γ σ (.BinOp l op r p) = none := rfl
end
section
variable {n : Nat} {F : Fns} {Γ : Ctx} {σ : Store} {mv : List Str} {e t i : Expr} {p : Pos} {b o ss : List Stmt} {s : Stmt} {d a : D} {ds : List D} {c : Bool} {x : Str} {k : Nat} {kvs : List (Key × D)}
theorem sS_ret : exS (n + 1) F mv (.Return (some e) p) Γ σ = kR Γ (evE n F Γ e σ) := rfl
theorem kR_some : kR Γ (some (d, σ)) = some (.ret d, Γ, σ) := rfl
theorem sS_expr : exS (n + 1) F mv (.Expr e p) Γ σ = kX Γ (evE n F Γ e σ) := rfl
theorem kX_some : kX Γ (some (d, σ)) = some (.next, Γ, σ) := rfl
theorem sS_if : exS (n + 1) F mv (.If t b o p) Γ σ = kI n F mv b o Γ (evT n F Γ t σ) := rfl
theorem kI_some : kI n F mv b o Γ (some (c, σ)) = if c then exSs n F mv b Γ σ else exSs n F mv o Γ σ := rfl
theorem sS_for : exS (n + 1) F mv (.For t i b [] p) Γ σ = kFo n F mv t i b Γ σ (frozenDict Γ σ i) := rfl
theorem kFo_none : kFo n F mv t i b Γ σ none = kFo1 n F mv t b Γ (evE n F Γ i σ) := rfl
theorem kFo_some : kFo n F mv t i b Γ σ (some (x, k, kvs)) = kFo2 n F mv t b (upd Γ x (.dct kvs)) (σ.set k .nil) .nil (itemsOf (.dct kvs)) := rfl
theorem kFo1_some : kFo1 n F mv t b Γ (some (d, σ)) = kFo3 n F mv t b Γ σ d (deref σ d) := rfl
theorem kFo3_some : kFo3 n F mv t b Γ σ d (some a) = kFo2 n F mv t b Γ σ d (itemsSrc d a) := rfl
theorem kFo2_some : kFo2 n F mv t b Γ σ d (some ds) = forL d t (exSs n F mv b) ds Γ σ := rfl
theorem sSs_cons : exSs (n + 1) F mv (s :: ss) Γ σ = kSq n F mv ss (exS n F mv s Γ σ) := rfl
theorem kSq_next : kSq n F mv ss (some (.next, Γ, σ)) = exSs n F mv ss Γ σ := rfl
theorem kSq_cont : kSq n F mv ss (some (.cont, Γ, σ)) = some (.cont, Γ, σ) := rfl
theorem kSq_brk : kSq n F mv ss (some (.brk, Γ, σ)) = some (.brk, Γ, σ) := rfl
theorem kSq_ret : kSq n F mv ss (some (.ret d, Γ, σ)) = some (.ret d, Γ, σ) := rfl
end
end Mine

-- SnA
namespace Mine
open PySem
set_option linter.unusedSectionVars false
set_option linter.unusedSimpArgs false

noncomputable abbrev PH := Addr → Option Obj
noncomputable def lstO (vs : List Value) (n : Nat) : Obj := { cls := .type "list", dict := none, data := .seq vs.toArray n, slots := #[] }
noncomputable def tupO (vs : List Value) (n : Nat) : Obj := { cls := .type "tuple", dict := none, data := .seq vs.toArray n, slots := #[] }
noncomputable def dctO (es : List DictEntry) (n : Nat) : Obj := { cls := .type "dict", dict := none, data := .dict es.toArray n, slots := #[] }
noncomputable def rngO (n : Int) (t u v : Tok) : Obj := { cls := .type "range", dict := none, data := .fields #[.int 0 t, .int n u, .int 1 v], slots := #[] }

noncomputable def isKey (Φ : PH) : Key → Value → Prop
  | .s x, v => ∃ t, v = .str x t
  | .i n, v => ∃ t, v = .int n t
  | .p x y, v => ∃ a t u n, v = .ref a ∧ Φ a = some (tupO [.str x t, .str y u] n) ∧ a ≠ sysModules

noncomputable def hashK (w : World) : Key → Int
  | .s x => hashStr w x
  | .i n => hashInt n
  | .p x y => reduceHash (Builtin.Tuple.tupleHashOf [hashStr w x, hashStr w y])

mutual
inductive Rep (w : World) (Φ : PH) : Value → D → Prop
  | nil : Rep w Φ .none .nil
  | bool (b : Bool) : Rep w Φ (.bool b) (.bool b)
  | int (i : Int) (t : Tok) : Rep w Φ (.int i t) (.int i)
  | str (x : Str) (t : Tok) : Rep w Φ (.str x t) (.str x)
  | obj {a : Addr} {o : Obj} {d : D} : Φ a = some o → a ≠ sysModules → Cont w Φ o d → Rep w Φ (.ref a) d
inductive Cont (w : World) (Φ : PH) : Obj → D → Prop
  | tup {vs : List Value} {n : Nat} {ds : List D} : RepL w Φ vs ds → Cont w Φ (tupO vs n) (.tup ds)
  | lst {vs : List Value} {n : Nat} {ds : List D} : RepL w Φ vs ds → Cont w Φ (lstO vs n) (.lst ds)
  | dct {es : List DictEntry} {n : Nat} {kvs : List (Key × D)} : RepK w Φ es kvs → (kvs.map (·.1)).Nodup → Cont w Φ (dctO es n) (.dct kvs)
  | rng {n : Int} {t u v : Tok} : Cont w Φ (rngO n t u v) (.rng n)
inductive RepL (w : World) (Φ : PH) : List Value → List D → Prop
  | nil : RepL w Φ [] []
  | cons {v : Value} {d : D} {vs : List Value} {ds : List D} : Rep w Φ v d → RepL w Φ vs ds → RepL w Φ (v :: vs) (d :: ds)
inductive RepK (w : World) (Φ : PH) : List DictEntry → List (Key × D) → Prop
  | nil : RepK w Φ [] []
  | cons {e : DictEntry} {k : Key} {d : D} {es : List DictEntry} {kvs : List (Key × D)} : isKey Φ k e.key → e.hash = hashK w k → Rep w Φ e.val d → RepK w Φ es kvs → RepK w Φ (e :: es) ((k, d) :: kvs)
end

theorem isKey.mono {Φ Φ' : PH} (h : ∀ a o, Φ a = some o → Φ' a = some o) {k : Key} {v : Value} (x : isKey Φ k v) : isKey Φ' k v := by
  cases k with
  | s => exact x
  | i => exact x
  | p => obtain ⟨a, t, u, n, e, f, g⟩ := x; exact ⟨a, t, u, n, e, h _ _ f, g⟩

section
variable {w : World} {Φ Φ' : PH} (h : ∀ a o, Φ a = some o → Φ' a = some o)
include h
theorem Rep.mono {v : Value} {d : D} (r : Rep w Φ v d) : Rep w Φ' v d :=
  Rep.rec (motive_1 := fun v d _ => Rep w Φ' v d) (motive_2 := fun o d _ => Cont w Φ' o d) (motive_3 := fun vs ds _ => RepL w Φ' vs ds) (motive_4 := fun es kvs _ => RepK w Φ' es kvs)
    .nil .bool .int .str (fun e hs _ c => .obj (h _ _ e) hs c) (fun _ r => .tup r) (fun _ r => .lst r) (fun _ n r => .dct r n) .rng .nil (fun _ _ r rs => .cons r rs) .nil (fun k hh _ _ r rs => .cons (k.mono h) hh r rs) r
theorem RepL.mono {vs : List Value} {ds : List D} (r : RepL w Φ vs ds) : RepL w Φ' vs ds :=
  RepL.rec (motive_1 := fun v d _ => Rep w Φ' v d) (motive_2 := fun o d _ => Cont w Φ' o d) (motive_3 := fun vs ds _ => RepL w Φ' vs ds) (motive_4 := fun es kvs _ => RepK w Φ' es kvs)
    .nil .bool .int .str (fun e hs _ c => .obj (h _ _ e) hs c) (fun _ r => .tup r) (fun _ r => .lst r) (fun _ n r => .dct r n) .rng .nil (fun _ _ r rs => .cons r rs) .nil (fun k hh _ _ r rs => .cons (k.mono h) hh r rs) r
theorem RepK.mono {es : List DictEntry} {kvs : List (Key × D)} (r : RepK w Φ es kvs) : RepK w Φ' es kvs :=
  RepK.rec (motive_1 := fun v d _ => Rep w Φ' v d) (motive_2 := fun o d _ => Cont w Φ' o d) (motive_3 := fun vs ds _ => RepL w Φ' vs ds) (motive_4 := fun es kvs _ => RepK w Φ' es kvs)
    .nil .bool .int .str (fun e hs _ c => .obj (h _ _ e) hs c) (fun _ r => .tup r) (fun _ r => .lst r) (fun _ n r => .dct r n) .rng .nil (fun _ _ r rs => .cons r rs) .nil (fun k hh _ _ r rs => .cons (k.mono h) hh r rs) r
theorem Cont.mono {o : Obj} {d : D} (c : Cont w Φ o d) : Cont w Φ' o d := by
  cases c with
  | tup r => exact .tup (RepL.mono h r)
  | lst r => exact .lst (RepL.mono h r)
  | dct r n => exact .dct (RepK.mono h r) n
  | rng => exact .rng
end

theorem tupO_ne_lstO {a b n m} : tupO a n ≠ lstO b m := by simp [tupO, lstO]
theorem tupO_ne_dctO {a b n m} : tupO a n ≠ dctO b m := by simp [tupO, dctO]
theorem tupO_ne_rngO {a n m t u v} : tupO a n ≠ rngO m t u v := by simp [tupO, rngO]
theorem lstO_ne_dctO {a b n m} : lstO a n ≠ dctO b m := by simp [lstO, dctO]
theorem lstO_ne_rngO {a n m t u v} : lstO a n ≠ rngO m t u v := by simp [lstO, rngO]
theorem dctO_ne_rngO {a n m t u v} : dctO a n ≠ rngO m t u v := by simp [dctO, rngO]
theorem tupO_inj {a b n m} (h : tupO a n = tupO b m) : a = b := by
  simp only [tupO, Obj.mk.injEq, Data.seq.injEq, true_and, and_true] at h; simpa using congrArg Array.toList h.1
theorem lstO_inj {a b n m} (h : lstO a n = lstO b m) : a = b := by
  simp only [lstO, Obj.mk.injEq, Data.seq.injEq, true_and, and_true] at h; simpa using congrArg Array.toList h.1
theorem dctO_inj {a b n m} (h : dctO a n = dctO b m) : a = b := by
  simp only [dctO, Obj.mk.injEq, Data.dict.injEq, true_and, and_true] at h; simpa using congrArg Array.toList h.1
theorem rngO_inj {n m t u v t' u' v'} (h : rngO n t u v = rngO m t' u' v') : n = m := by
  simp [rngO] at h; exact h.2.1.1

theorem isKey.inj {Φ : PH} {k k' : Key} {v : Value} (x : isKey Φ k v) (y : isKey Φ k' v) : k = k' := by
  cases k with
  | s a =>
    obtain ⟨t, rfl⟩ := x
    cases k' with
    | s b => obtain ⟨u, e⟩ := y; injection e with e1; rw [e1]
    | i b => obtain ⟨u, e⟩ := y; injection e
    | p b c => obtain ⟨_, _, _, _, e, _⟩ := y; injection e
  | i a =>
    obtain ⟨t, rfl⟩ := x
    cases k' with
    | s b => obtain ⟨u, e⟩ := y; injection e
    | i b => obtain ⟨u, e⟩ := y; injection e with e1; rw [e1]
    | p b c => obtain ⟨_, _, _, _, e, _⟩ := y; injection e
  | p a b =>
    obtain ⟨a, t, u, n, rfl, e1, _⟩ := x
    cases k' with
    | s b => obtain ⟨u, e⟩ := y; injection e
    | i b => obtain ⟨u, e⟩ := y; injection e
    | p b c =>
      obtain ⟨a', t', u', n', e, e2, _⟩ := y
      injection e with e; subst e
      have e4 := tupO_inj (Option.some.inj (e1.symm.trans e2))
      injection e4 with e5 e6
      injection e5 with e7 _
      injection e6 with e8 _
      injection e8 with e9 _
      rw [e7, e9]

section
variable {w : World} {Φ : PH}
theorem Cont.of_tup {o : Obj} {d : D} (y : Cont w Φ o d) {vs : List Value} {n : Nat} (e : o = tupO vs n) : ∃ ds, d = .tup ds ∧ RepL w Φ vs ds := by
  cases y with
  | tup r => exact ⟨_, rfl, tupO_inj e ▸ r⟩
  | lst => exact absurd e.symm tupO_ne_lstO
  | dct => exact absurd e.symm tupO_ne_dctO
  | rng => exact absurd e.symm tupO_ne_rngO
theorem Cont.of_lst {o : Obj} {d : D} (y : Cont w Φ o d) {vs : List Value} {n : Nat} (e : o = lstO vs n) : ∃ ds, d = .lst ds ∧ RepL w Φ vs ds := by
  cases y with
  | tup => exact absurd e tupO_ne_lstO
  | lst r => exact ⟨_, rfl, lstO_inj e ▸ r⟩
  | dct => exact absurd e.symm lstO_ne_dctO
  | rng => exact absurd e.symm lstO_ne_rngO
theorem Cont.of_dct {o : Obj} {d : D} (y : Cont w Φ o d) {es : List DictEntry} {n : Nat} (e : o = dctO es n) : ∃ kvs, d = .dct kvs ∧ RepK w Φ es kvs := by
  cases y with
  | tup => exact absurd e tupO_ne_dctO
  | lst => exact absurd e lstO_ne_dctO
  | dct r => exact ⟨_, rfl, dctO_inj e ▸ r⟩
  | rng => exact absurd e.symm dctO_ne_rngO
theorem Cont.of_rng {o : Obj} {d : D} (y : Cont w Φ o d) {n : Int} {t u v : Tok} (e : o = rngO n t u v) : d = .rng n := by
  cases y with
  | tup => exact absurd e tupO_ne_rngO
  | lst => exact absurd e lstO_ne_rngO
  | dct => exact absurd e dctO_ne_rngO
  | rng => rw [rngO_inj e]
theorem RepL.of_nil {vs : List Value} {ds : List D} (y : RepL w Φ vs ds) (e : vs = []) : ds = [] := by
  cases y with
  | nil => rfl
  | cons => injection e
theorem RepL.of_cons {v : Value} {vs : List Value} {ds : List D} (y : RepL w Φ (v :: vs) ds) : ∃ d ds', ds = d :: ds' ∧ Rep w Φ v d ∧ RepL w Φ vs ds' := by
  cases y with
  | cons r rs => exact ⟨_, _, rfl, r, rs⟩
theorem RepL.of_one {vs : List Value} {d : D} (y : RepL w Φ vs [d]) : ∃ v, vs = [v] ∧ Rep w Φ v d := by
  cases y with
  | cons r rs => cases rs; exact ⟨_, rfl, r⟩
theorem RepL.of_two {vs : List Value} {d e : D} (y : RepL w Φ vs [d, e]) : ∃ v u, vs = [v, u] ∧ Rep w Φ v d ∧ Rep w Φ u e := by
  cases y with
  | cons r rs =>
    obtain ⟨u, rfl, q⟩ := rs.of_one
    exact ⟨_, _, rfl, r, q⟩
theorem RepK.of_nil {kvs : List (Key × D)} (y : RepK w Φ [] kvs) : kvs = [] := by cases y; rfl
theorem RepK.of_cons {e : DictEntry} {es : List DictEntry} {kvs : List (Key × D)} (y : RepK w Φ (e :: es) kvs) : ∃ k d r, kvs = (k, d) :: r ∧ isKey Φ k e.key ∧ Rep w Φ e.val d ∧ RepK w Φ es r := by
  cases y with
  | cons k _ r rs => exact ⟨_, _, _, rfl, k, r, rs⟩
theorem Rep.of_ref {v : Value} {d : D} (y : Rep w Φ v d) {a : Addr} (e : v = .ref a) {o : Obj} (h : Φ a = some o) : Cont w Φ o d := by
  cases y with
  | obj e' _ c =>
    injection e with e
    subst e
    exact Option.some.inj (e'.symm.trans h) ▸ c
  | _ => injection e
theorem Rep.inj {v : Value} {d : D} (r : Rep w Φ v d) {d' : D} (y : Rep w Φ v d') : d = d' := by
  refine Rep.rec (motive_1 := fun v d _ => ∀ d', Rep w Φ v d' → d = d') (motive_2 := fun o d _ => ∀ d', Cont w Φ o d' → d = d') (motive_3 := fun vs ds _ => ∀ ds', RepL w Φ vs ds' → ds = ds') (motive_4 := fun es kvs _ => ∀ kvs', RepK w Φ es kvs' → kvs = kvs')
    ?_ ?_ ?_ ?_ (fun e _ _ ih d' y => ih d' (y.of_ref rfl e)) ?_ ?_ ?_ (fun d' y => (y.of_rng rfl).symm) (fun ds' y => (y.of_nil rfl).symm) ?_ (fun kvs' y => y.of_nil.symm) ?_ r d' y
  · intro d' y; cases y; rfl
  · intro b d' y; cases y; rfl
  · intro i t d' y; cases y; rfl
  · intro x t d' y; cases y; rfl
  · intro vs n ds _ ih d' y
    obtain ⟨ds', rfl, q⟩ := y.of_tup rfl
    rw [ih _ q]
  · intro vs n ds _ ih d' y
    obtain ⟨ds', rfl, q⟩ := y.of_lst rfl
    rw [ih _ q]
  · intro es n kvs _ _ ih d' y
    obtain ⟨ds', rfl, q⟩ := y.of_dct rfl
    rw [ih _ q]
  · intro v d vs ds _ _ ih1 ih2 ds' y
    obtain ⟨d', r, rfl, q1, q2⟩ := y.of_cons
    rw [ih1 _ q1, ih2 _ q2]
  · intro e k d es kvs hk _ _ _ ih1 ih2 kvs' y
    obtain ⟨k', d', r, rfl, q1, q2, q3⟩ := y.of_cons
    rw [hk.inj q1, ih1 _ q2, ih2 _ q3]
theorem RepL.inj {vs : List Value} {ds : List D} (r : RepL w Φ vs ds) {vs' : List Value} {ds' : List D} (y : RepL w Φ vs' ds') (e : vs = vs') : ds = ds' := by
  subst e
  induction vs generalizing ds ds' with
  | nil => rw [r.of_nil rfl, y.of_nil rfl]
  | cons v vs ih =>
    obtain ⟨d, r', rfl, q1, q2⟩ := r.of_cons
    obtain ⟨d', y', rfl, p1, p2⟩ := y.of_cons
    rw [q1.inj p1, ih q2 p2]
end

noncomputable def RepV (w : World) (Φ : PH) (α : List Addr) (v : Value) : D → Prop
  | .loc k => ∃ a, α[k]? = some a ∧ v = .ref a
  | d => Rep w Φ v d

section
variable {w : World} {Φ Φ' : PH} {α : List Addr} {v : Value} {d : D}
theorem Rep.notLoc (r : Rep w Φ v d) : d.isLoc = false := by
  cases r with
  | obj _ _ c => cases c <;> rfl
  | _ => rfl
theorem Rep.repV (r : Rep w Φ v d) : RepV w Φ α v d := by
  have := r.notLoc
  cases d <;> first | exact r | cases this
theorem RepV.rep (r : RepV w Φ α v d) (h : d.isLoc = false) : Rep w Φ v d := by
  cases d <;> first | exact r | cases h
theorem RepV.mono (h : ∀ a o, Φ a = some o → Φ' a = some o) (r : RepV w Φ α v d) : RepV w Φ' α v d := by
  cases d <;> first | exact Rep.mono h r | exact r
theorem RepV.more (r : RepV w Φ α v d) (β : List Addr) : RepV w Φ (α ++ β) v d := by
  cases d with
  | loc k =>
    obtain ⟨a, e, f⟩ := r
    refine ⟨a, ?_, f⟩
    rw [List.getElem?_append_left]
    · exact e
    · exact (List.getElem?_eq_some_iff.mp e).1
  | _ => exact r
end

section
variable {w : World} {Φ : PH} {v : Value}
theorem Rep.int_inv {i : Int} (r : Rep w Φ v (.int i)) : ∃ t, v = .int i t := by
  cases r with
  | int _ t => exact ⟨t, rfl⟩
  | obj _ _ c => nomatch c
theorem Rep.bool_inv {i : Bool} (r : Rep w Φ v (.bool i)) : v = .bool i := by
  cases r with
  | bool _ => rfl
  | obj _ _ c => nomatch c
theorem Rep.nil_inv (r : Rep w Φ v .nil) : v = .none := by
  cases r with
  | nil => rfl
  | obj _ _ c => nomatch c
theorem Rep.str_inv {x : Str} (r : Rep w Φ v (.str x)) : ∃ t, v = .str x t := by
  cases r with
  | str _ t => exact ⟨t, rfl⟩
  | obj _ _ c => nomatch c
theorem Rep.lst_inv {ds : List D} (r : Rep w Φ v (.lst ds)) : ∃ a vs n, v = .ref a ∧ Φ a = some (lstO vs n) ∧ a ≠ sysModules ∧ RepL w Φ vs ds := by
  cases r with
  | obj e hs c => cases c with | lst r => exact ⟨_, _, _, rfl, e, hs, r⟩
theorem Rep.tup_inv {ds : List D} (r : Rep w Φ v (.tup ds)) : ∃ a vs n, v = .ref a ∧ Φ a = some (tupO vs n) ∧ a ≠ sysModules ∧ RepL w Φ vs ds := by
  cases r with
  | obj e hs c => cases c with | tup r => exact ⟨_, _, _, rfl, e, hs, r⟩
theorem Rep.dct_inv {kvs : List (Key × D)} (r : Rep w Φ v (.dct kvs)) : ∃ a es n, v = .ref a ∧ Φ a = some (dctO es n) ∧ a ≠ sysModules ∧ RepK w Φ es kvs ∧ (kvs.map (·.1)).Nodup := by
  cases r with
  | obj e hs c => cases c with | dct r n => exact ⟨_, _, _, rfl, e, hs, r, n⟩
theorem Rep.rng_inv {n : Int} (r : Rep w Φ v (.rng n)) : ∃ a t u k, v = .ref a ∧ Φ a = some (rngO n t u k) := by
  cases r with
  | obj e hs c => cases c with | rng => exact ⟨_, _, _, _, rfl, e⟩
theorem Cont.lst_inv {o : Obj} {ds : List D} (c : Cont w Φ o (.lst ds)) : ∃ vs n, o = lstO vs n ∧ RepL w Φ vs ds := by
  cases c with | lst r => exact ⟨_, _, rfl, r⟩
theorem Cont.tup_inv {o : Obj} {ds : List D} (c : Cont w Φ o (.tup ds)) : ∃ vs n, o = tupO vs n ∧ RepL w Φ vs ds := by
  cases c with | tup r => exact ⟨_, _, rfl, r⟩
theorem Cont.dct_inv {o : Obj} {kvs : List (Key × D)} (c : Cont w Φ o (.dct kvs)) : ∃ es n, o = dctO es n ∧ RepK w Φ es kvs ∧ (kvs.map (·.1)).Nodup := by
  cases c with | dct r n => exact ⟨_, _, rfl, r, n⟩
theorem Cont.rng_inv {o : Obj} {m : Int} (c : Cont w Φ o (.rng m)) : ∃ t u k, o = rngO m t u k := by
  cases c with | rng => exact ⟨_, _, _, rfl⟩
theorem Cont.notFreed {o : Obj} {d : D} (c : Cont w Φ o d) : o.isFreed = false := by cases c <;> rfl

theorem RepL.length {vs : List Value} {ds : List D} (r : RepL w Φ vs ds) : vs.length = ds.length := by
  induction ds generalizing vs with
  | nil => cases r; rfl
  | cons d ds ih => cases r with | cons _ rs => simp [ih rs]
theorem RepL.get {vs : List Value} {ds : List D} (r : RepL w Φ vs ds) {i : Nat} {d : D} (e : ds[i]? = some d) : ∃ v, vs[i]? = some v ∧ Rep w Φ v d := by
  induction ds generalizing vs i with
  | nil => simp at e
  | cons d' ds ih =>
    cases r with
    | cons r1 rs =>
      cases i with
      | zero => simp at e; subst e; exact ⟨_, rfl, r1⟩
      | succ i => simpa using ih rs (by simpa using e)
theorem RepL.getV {vs : List Value} {ds : List D} (r : RepL w Φ vs ds) {i : Nat} {v : Value} (e : vs[i]? = some v) : ∃ d, ds[i]? = some d ∧ Rep w Φ v d := by
  induction ds generalizing vs i with
  | nil => cases r; simp at e
  | cons d' ds ih =>
    cases r with
    | cons r1 rs =>
      cases i with
      | zero => simp at e; subst e; exact ⟨_, rfl, r1⟩
      | succ i => simpa using ih rs (by simpa using e)
theorem RepL.append {vs vs' : List Value} {ds ds' : List D} (r : RepL w Φ vs ds) (r' : RepL w Φ vs' ds') : RepL w Φ (vs ++ vs') (ds ++ ds') := by
  induction ds generalizing vs with
  | nil => cases r; exact r'
  | cons d ds ih => cases r with | cons r1 rs => exact .cons r1 (ih rs)
theorem RepL.drop {vs : List Value} {ds : List D} (r : RepL w Φ vs ds) (n : Nat) : RepL w Φ (vs.drop n) (ds.drop n) := by
  induction n generalizing vs ds with
  | zero => exact r
  | succ n ih => cases r with
    | nil => simpa using RepL.nil
    | cons _ rs => simpa using ih rs
theorem RepL.take {vs : List Value} {ds : List D} (r : RepL w Φ vs ds) (n : Nat) : RepL w Φ (vs.take n) (ds.take n) := by
  induction n generalizing vs ds with
  | zero => simpa using RepL.nil
  | succ n ih => cases r with
    | nil => simpa using RepL.nil
    | cons r1 rs => simpa using RepL.cons r1 (ih rs)
theorem RepL.mem {vs : List Value} {ds : List D} (r : RepL w Φ vs ds) {v : Value} (h : v ∈ vs) : ∃ d, d ∈ ds ∧ Rep w Φ v d := by
  obtain ⟨i, hi⟩ := List.mem_iff_getElem?.mp h
  obtain ⟨d, e, x⟩ := r.getV hi
  exact ⟨d, List.mem_iff_getElem?.mpr ⟨i, e⟩, x⟩
theorem RepL.one {d : D} (r : Rep w Φ v d) : RepL w Φ [v] [d] := .cons r .nil
end

/-- what a step may do: only X's objects are changed; frozen stays frozen; what stood is frozen no more than it was -/
structure Chg (X : Addr → Prop) (Φ Φ' : PH) (h h' : Heap) : Prop where
  keep : ∀ a o, ¬ X a → h.get? a = some o → h'.get? a = some o
  mono : ∀ a o, Φ a = some o → Φ' a = some o
  new : ∀ a o, ¬ X a → h.get? a = some o → Φ' a = Φ a

theorem Chg.refl {X : Addr → Prop} {Φ : PH} {h : Heap} : Chg X Φ Φ h h := ⟨fun _ _ _ e => e, fun _ _ e => e, fun _ _ _ _ => rfl⟩
theorem Chg.trans {X : Addr → Prop} {Φ Φ' Φ'' : PH} {h h' h'' : Heap} (x : Chg X Φ Φ' h h') (y : Chg X Φ' Φ'' h' h'') : Chg X Φ Φ'' h h'' :=
  ⟨fun a o n e => y.keep a o n (x.keep a o n e), fun a o e => y.mono a o (x.mono a o e), fun a o n e => (y.new a o n (x.keep a o n e)).trans (x.new a o n e)⟩
theorem Chg.weak {X Y : Addr → Prop} {Φ Φ' : PH} {h h' : Heap} (x : Chg X Φ Φ' h h') (hXY : ∀ a, X a → Y a) : Chg Y Φ Φ' h h' :=
  ⟨fun a o n e => x.keep a o (fun q => n (hXY a q)) e, x.mono, fun a o n e => x.new a o (fun q => n (hXY a q)) e⟩

noncomputable def Seen (Φ : PH) (h : Heap) : Prop := ∀ a o, Φ a = some o → h.get? a = some o
noncomputable def put (Φ : PH) (a : Addr) (o : Obj) : PH := fun b => if b = a then some o else Φ b
theorem put_self (Φ : PH) (a : Addr) (o : Obj) : put Φ a o a = some o := by simp [put]
theorem put_ne (Φ : PH) {a b : Addr} (o : Obj) (h : b ≠ a) : put Φ a o b = Φ b := by simp [put, h]
theorem put_mono {Φ : PH} {a : Addr} {o : Obj} (h : Φ a = none) : ∀ b x, Φ b = some x → put Φ a o b = some x := fun b x e => by
  by_cases hb : b = a
  · subst hb; rw [h] at e; cases e
  · rw [put_ne _ _ hb]; exact e

theorem fresh_none (h : Heap) : h.get? h.objs.size = none := by
  cases e : h.get? h.objs.size with
  | none => rfl
  | some o => exact absurd (Heap.lt_size e) (Nat.lt_irrefl _)
theorem Seen.fresh {Φ : PH} {h : Heap} (x : Seen Φ h) : Φ h.objs.size = none := by
  cases e : Φ h.objs.size with
  | none => rfl
  | some o => have := x _ _ e; rw [fresh_none] at this; cases this

/-- a new frozen object -/
theorem Chg.alloc {X : Addr → Prop} {Φ : PH} {h : Heap} (x : Seen Φ h) (o : Obj) : Chg X Φ (put Φ h.objs.size o) h (h.push o) :=
  ⟨fun _ _ _ e => Heap.get?_push_of_some _ e, put_mono x.fresh, fun a o' _ e => put_ne _ _ (Nat.ne_of_lt (Heap.lt_size e))⟩
theorem Seen.alloc {Φ : PH} {h : Heap} (x : Seen Φ h) {o : Obj} (ho : o.isFreed = false) : Seen (put Φ h.objs.size o) (h.push o) := fun a o' e => by
  by_cases ha : a = h.objs.size
  · subst ha; rw [put_self] at e; cases e; exact Heap.get?_push_size _ ho
  · rw [put_ne _ _ ha] at e; exact Heap.get?_push_of_some _ (x _ _ e)
/-- a new object that is not frozen -/
theorem Chg.push {X : Addr → Prop} {Φ : PH} {h : Heap} (o : Obj) : Chg X Φ Φ h (h.push o) :=
  ⟨fun _ _ _ e => Heap.get?_push_of_some _ e, fun _ _ e => e, fun _ _ _ _ => rfl⟩
theorem Seen.push {Φ : PH} {h : Heap} (x : Seen Φ h) (o : Obj) : Seen Φ (h.push o) := fun _ _ e => Heap.get?_push_of_some _ (x _ _ e)
theorem Chg.ext {X : Addr → Prop} {Φ : PH} {h h' : Heap} {a : Addr} (hs : Heap.ExtBut a h h') (ha : X a) : Chg X Φ Φ h h' :=
  ⟨fun b o n e => hs b o (fun q => n (q ▸ ha)) e, fun _ _ e => e, fun _ _ _ _ => rfl⟩
theorem Seen.ext {Φ : PH} {h h' : Heap} {a : Addr} (x : Seen Φ h) (hs : Heap.ExtBut a h h') (ha : Φ a = none) : Seen Φ h' := fun b o e =>
  hs b o (fun q => by rw [q, ha] at e; cases e) (x b o e)
end Mine

-- SnB
namespace Mine
open PySem PySem.SeqAt
set_option linter.unusedSectionVars false
set_option linter.unusedSimpArgs false
set_option linter.unusedVariables false

/-- v stands for d, its outermost object read off the heap -/
inductive AtH (w : World) (Φ : PH) (h : Heap) : Value → D → Prop
  | int (i : Int) (t : Tok) : AtH w Φ h (.int i t) (.int i)
  | str (x : Str) (t : Tok) : AtH w Φ h (.str x t) (.str x)
  | bool (b : Bool) : AtH w Φ h (.bool b) (.bool b)
  | nil : AtH w Φ h .none .nil
  | obj {a : Addr} {o : Obj} {d : D} : h.get? a = some o → a ≠ sysModules → Cont w Φ o d → AtH w Φ h (.ref a) d

section
variable {w : World} {Φ : PH} {h : Heap} {v : Value} {d : D}
theorem Rep.at (r : Rep w Φ v d) (s : Seen Φ h) : AtH w Φ h v d := by
  cases r with
  | nil => exact .nil
  | bool b => exact .bool b
  | int i t => exact .int i t
  | str x t => exact .str x t
  | obj e hs c => exact .obj (s _ _ e) hs c
theorem AtH.lst_inv {ds : List D} (r : AtH w Φ h v (.lst ds)) : ∃ a vs n, v = .ref a ∧ h.get? a = some (lstO vs n) ∧ a ≠ sysModules ∧ RepL w Φ vs ds := by
  cases r with
  | obj e hs c => cases c with | lst r => exact ⟨_, _, _, rfl, e, hs, r⟩
theorem AtH.tup_inv {ds : List D} (r : AtH w Φ h v (.tup ds)) : ∃ a vs n, v = .ref a ∧ h.get? a = some (tupO vs n) ∧ a ≠ sysModules ∧ RepL w Φ vs ds := by
  cases r with
  | obj e hs c => cases c with | tup r => exact ⟨_, _, _, rfl, e, hs, r⟩
theorem AtH.dct_inv {kvs : List (Key × D)} (r : AtH w Φ h v (.dct kvs)) : ∃ a es n, v = .ref a ∧ h.get? a = some (dctO es n) ∧ a ≠ sysModules ∧ RepK w Φ es kvs ∧ (kvs.map (·.1)).Nodup := by
  cases r with
  | obj e hs c => cases c with | dct r n => exact ⟨_, _, _, rfl, e, hs, r, n⟩
theorem AtH.rng_inv {n : Int} (r : AtH w Φ h v (.rng n)) : ∃ a t u k, v = .ref a ∧ h.get? a = some (rngO n t u k) := by
  cases r with
  | obj e hs c => cases c with | rng => exact ⟨_, _, _, _, rfl, e⟩
theorem AtH.int_inv {i : Int} (r : AtH w Φ h v (.int i)) : ∃ t, v = .int i t := by
  cases r with
  | int _ t => exact ⟨t, rfl⟩
  | obj _ _ c => nomatch c
theorem AtH.str_inv {x : Str} (r : AtH w Φ h v (.str x)) : ∃ t, v = .str x t := by
  cases r with
  | str _ t => exact ⟨t, rfl⟩
  | obj _ _ c => nomatch c
theorem AtH.bool_inv {b : Bool} (r : AtH w Φ h v (.bool b)) : v = .bool b := by
  cases r with
  | bool _ => rfl
  | obj _ _ c => nomatch c
theorem AtH.notLoc (r : AtH w Φ h v d) : d.isLoc = false := by
  cases r with
  | obj _ _ c => cases c <;> rfl
  | _ => rfl
end

theorem isList_of {h : Heap} {a : Addr} {vs : List Value} {n : Nat} (e : h.get? a = some (lstO vs n)) : h.IsList a vs.toArray := ⟨_, e, rfl, n, rfl⟩
theorem isTuple_of {h : Heap} {a : Addr} {vs : List Value} {n : Nat} (e : h.get? a = some (tupO vs n)) : h.IsTuple a vs.toArray := ⟨_, e, rfl, n, rfl⟩

theorem dec_beq {α : Type} [DecidableEq α] (x y : α) : decide (x = y) = (x == y) := by rw [Bool.eq_iff_iff]; simp

theorem eqLW_self {f : D → D → Option Bool} (hf : ∀ d b, f d d = some b → b = true) : ∀ (l : List D) (b : Bool), eqLW f l l = some b → b = true
  | [], b, e => (Option.some.inj e).symm
  | d :: ds, b, e => by
    obtain ⟨x, hx, e⟩ := bsome (eLW_cons.symm.trans e)
    obtain ⟨y, hy, rfl⟩ := msome e
    rw [hf _ _ hx, eqLW_self hf _ _ hy]; rfl
theorem eqD_self : ∀ (n : Nat) (d : D) (b : Bool), eqD n d d = some b → b = true := by
  intro n
  induction n with
  | zero =>
    intro d b e
    cases d with
    | int x => obtain rfl := Option.some.inj (eqD_int.symm.trans e); exact decide_eq_true rfl
    | str x => obtain rfl := Option.some.inj (eqD_str.symm.trans e); exact decide_eq_true rfl
    | _ => exact nn e
  | succ n ih =>
    intro d b e
    cases d with
    | int x => obtain rfl := Option.some.inj (eqD_int.symm.trans e); exact decide_eq_true rfl
    | str x => obtain rfl := Option.some.inj (eqD_str.symm.trans e); exact decide_eq_true rfl
    | tup l => exact eqLW_self ih _ _ (eqD_tup.symm.trans e)
    | lst l => exact eqLW_self ih _ _ ((if_pos rfl).symm.trans (eqD_lst.symm.trans e))
    | _ => exact nn e

/-- the j-th answer -/
noncomputable def ansAt (f : D → D → Option Bool) (as bs : List D) (j : Nat) : Bool := match as[j]?, bs[j]? with
  | some a, some b => (f a b).getD false
  | _, _ => false
theorem eqLW_ans {f : D → D → Option Bool} : ∀ {as bs : List D} {b : Bool}, eqLW f as bs = some b →
    b = ((List.range (min as.length bs.length)).all (ansAt f as bs) && (as.length == bs.length)) ∧
    ∀ j (x y : D), as[j]? = some x → bs[j]? = some y → ∃ c, f x y = some c ∧ ansAt f as bs j = c
  | [], [], b, e => by
    obtain rfl := Option.some.inj e
    exact ⟨rfl, fun j x y h => nn h⟩
  | [], _ :: _, b, e => by
    obtain rfl := Option.some.inj e
    exact ⟨by simp, fun j x y h => nn h⟩
  | _ :: _, [], b, e => by
    obtain rfl := Option.some.inj e
    exact ⟨by simp, fun j x y _ h => nn h⟩
  | a :: as, c :: cs, b, e => by
    obtain ⟨x, hx, e⟩ := bsome (eLW_cons.symm.trans e)
    obtain ⟨y, hy, rfl⟩ := msome e
    obtain ⟨h1, h2⟩ := eqLW_ans hy
    refine ⟨?_, fun j p q hp hq => ?_⟩
    · have hm : min (a :: as).length (c :: cs).length = min as.length cs.length + 1 := by simp only [List.length_cons]; omega
      rw [hm, List.range_succ_eq_map, List.all_cons, List.all_map]
      have h3 : ansAt f (a :: as) (c :: cs) 0 = x := by simp [ansAt, hx]
      have h4 : (ansAt f (a :: as) (c :: cs) ∘ Nat.succ) = ansAt f as cs := by funext j; simp [ansAt]
      rw [h3, h4, h1]
      simp [Bool.and_assoc]
    · cases j with
      | zero => simp at hp hq; subst hp hq; exact ⟨x, hx, by simp [ansAt, hx]⟩
      | succ j => simpa [ansAt] using h2 j p q (by simpa using hp) (by simpa using hq)

section
variable {w : World} {Φ : PH}
section
variable {n : Nat} {A : Around} {s : Shared} {v v' : Value} {d' : D} {b : Bool}
theorem eq_int {i : Int} (r : AtH w Φ s.heap v (.int i)) (r' : AtH w Φ s.heap v' d') (hu' : A.units < cLine) (e : eqD n (.int i) d' = some b) : EqAt A s v v' b ∧ RcAt A s v v' b ∧ RcNeAt A s v v' (!b) := by
  obtain ⟨t, rfl⟩ := r.int_inv
  cases d' with
  | int j =>
    obtain rfl := Option.some.inj (eqD_int.symm.trans e)
    obtain ⟨u, rfl⟩ := r'.int_inv
    rw [dec_beq]
    exact ⟨EqAt.int_int _ _ _ _, RcAt.int_int _ _ _ _, RcNeAt.int_int _ _ _ _⟩
  | str y =>
    obtain rfl : false = b := by cases n <;> exact Option.some.inj e
    obtain ⟨u, rfl⟩ := r'.str_inv
    exact ⟨EqAt.int_str _ _ _ _, RcAt.int_str _ _ _ _, RcNeAt.int_str _ _ _ _⟩
  | tup l =>
    obtain rfl : false = b := by cases n <;> exact Option.some.inj e
    obtain ⟨a, vs, k, rfl, ea, _, _⟩ := r'.tup_inv
    exact ⟨EqAt.int_tuple _ _ (isTuple_of ea) hu', RcAt.int_tuple _ _ (isTuple_of ea) hu', RcNeAt.int_tuple _ _ (isTuple_of ea) hu'⟩
  | lst l =>
    obtain rfl : false = b := by cases n <;> exact Option.some.inj e
    obtain ⟨a, vs, k, rfl, ea, _, _⟩ := r'.lst_inv
    exact ⟨EqAt.int_list _ _ (isList_of ea) hu', RcAt.int_list _ _ (isList_of ea) hu', RcNeAt.int_list _ _ (isList_of ea) hu'⟩
  | _ => cases n <;> exact nn e
theorem eq_str {x : Str} (r : AtH w Φ s.heap v (.str x)) (r' : AtH w Φ s.heap v' d') (hu' : A.units < cLine) (e : eqD n (.str x) d' = some b) : EqAt A s v v' b ∧ RcAt A s v v' b ∧ RcNeAt A s v v' (!b) := by
  obtain ⟨t, rfl⟩ := r.str_inv
  cases d' with
  | int j =>
    obtain rfl : false = b := by cases n <;> exact Option.some.inj e
    obtain ⟨u, rfl⟩ := r'.int_inv
    exact ⟨EqAt.str_int _ _ _ _, RcAt.str_int _ _ _ _, RcNeAt.str_int _ _ _ _⟩
  | str y =>
    obtain rfl := Option.some.inj (eqD_str.symm.trans e)
    obtain ⟨u, rfl⟩ := r'.str_inv
    rw [dec_beq]
    exact ⟨EqAt.str_str _ _ _ _, RcAt.str_str _ _ _ _, RcNeAt.str_str _ _ _ _⟩
  | tup l =>
    obtain rfl : false = b := by cases n <;> exact Option.some.inj e
    obtain ⟨a, vs, k, rfl, ea, _, _⟩ := r'.tup_inv
    exact ⟨EqAt.str_tuple _ _ (isTuple_of ea) hu', RcAt.str_tuple _ _ (isTuple_of ea) hu', RcNeAt.str_tuple _ _ (isTuple_of ea) hu'⟩
  | lst l =>
    obtain rfl : false = b := by cases n <;> exact Option.some.inj e
    obtain ⟨a, vs, k, rfl, ea, _, _⟩ := r'.lst_inv
    exact ⟨EqAt.str_list _ _ (isList_of ea) hu', RcAt.str_list _ _ (isList_of ea) hu', RcNeAt.str_list _ _ (isList_of ea) hu'⟩
  | _ => cases n <;> exact nn e
theorem eq_tup {l : List D} (r : AtH w Φ s.heap v (.tup l)) (r' : AtH w Φ s.heap v' d') (hne : ∀ l', d' ≠ .tup l') (hu' : A.units < cLine) (e : eqD n (.tup l) d' = some b) : EqAt A s v v' b ∧ RcAt A s v v' b ∧ RcNeAt A s v v' (!b) := by
  obtain ⟨a, vs, k, rfl, ea, _, _⟩ := r.tup_inv
  cases d' with
  | int j =>
    obtain rfl : false = b := by cases n <;> exact Option.some.inj e
    obtain ⟨t, rfl⟩ := r'.int_inv
    exact ⟨EqAt.tuple_int _ _ (isTuple_of ea) hu', RcAt.tuple_int _ _ (isTuple_of ea) hu', RcNeAt.tuple_int _ _ (isTuple_of ea) hu'⟩
  | str y =>
    obtain rfl : false = b := by cases n <;> exact Option.some.inj e
    obtain ⟨t, rfl⟩ := r'.str_inv
    exact ⟨EqAt.tuple_str _ _ (isTuple_of ea) hu', RcAt.tuple_str _ _ (isTuple_of ea) hu', RcNeAt.tuple_str _ _ (isTuple_of ea) hu'⟩
  | tup l => exact absurd rfl (hne _)
  | lst l =>
    obtain rfl : false = b := by cases n <;> exact Option.some.inj e
    obtain ⟨a', vs', k', rfl, ea', _, _⟩ := r'.lst_inv
    exact ⟨EqAt.tuple_list (isTuple_of ea) (isList_of ea') hu', RcAt.tuple_list (isTuple_of ea) (isList_of ea') hu', RcNeAt.tuple_list (isTuple_of ea) (isList_of ea') hu'⟩
  | _ => cases n <;> exact nn e
theorem eq_lst {l : List D} (r : AtH w Φ s.heap v (.lst l)) (r' : AtH w Φ s.heap v' d') (hne : ∀ l', d' ≠ .lst l') (hu' : A.units < cLine) (e : eqD n (.lst l) d' = some b) : EqAt A s v v' b ∧ RcAt A s v v' b ∧ RcNeAt A s v v' (!b) := by
  obtain ⟨a, vs, k, rfl, ea, _, _⟩ := r.lst_inv
  cases d' with
  | int j =>
    obtain rfl : false = b := by cases n <;> exact Option.some.inj e
    obtain ⟨t, rfl⟩ := r'.int_inv
    exact ⟨EqAt.list_int _ _ (isList_of ea) hu', RcAt.list_int _ _ (isList_of ea) hu', RcNeAt.list_int _ _ (isList_of ea) hu'⟩
  | str y =>
    obtain rfl : false = b := by cases n <;> exact Option.some.inj e
    obtain ⟨t, rfl⟩ := r'.str_inv
    exact ⟨EqAt.list_str _ _ (isList_of ea) hu', RcAt.list_str _ _ (isList_of ea) hu', RcNeAt.list_str _ _ (isList_of ea) hu'⟩
  | lst l => exact absurd rfl (hne _)
  | tup l =>
    obtain rfl : false = b := by cases n <;> exact Option.some.inj e
    obtain ⟨a', vs', k', rfl, ea', _, _⟩ := r'.tup_inv
    exact ⟨EqAt.list_tuple (isList_of ea) (isTuple_of ea') hu', RcAt.list_tuple (isList_of ea) (isTuple_of ea') hu', RcNeAt.list_tuple (isList_of ea) (isTuple_of ea') hu'⟩
  | _ => cases n <;> exact nn e
/-- two tuples, two lists -/
theorem eq_tups {l l' : List D} (r : AtH w Φ s.heap v (.tup l)) (r' : AtH w Φ s.heap v' (.tup l')) (hu' : A.units < cLine) (e : eqLW (eqD n) l l' = some b)
    (items : ∀ {vs vs' : List Value}, RepL w Φ vs l → RepL w Φ vs' l' → ∀ j (h1 : j < vs.toArray.size) (h2 : j < vs'.toArray.size), EqAt A.in1 s vs.toArray[j] vs'.toArray[j] (ansAt (eqD n) l l' j)) : EqAt A s v v' b ∧ RcAt A s v v' b ∧ RcNeAt A s v v' (!b) := by
  obtain ⟨a, vs, k, rfl, ea, _, rl⟩ := r.tup_inv; obtain ⟨a', vs', k', rfl, ea', _, rl'⟩ := r'.tup_inv
  have h1 := items rl rl'
  have hb := (eqLW_ans e).1
  have hRc : RcAt A s (.ref a) (.ref a') b := by
    have := RcAt.tuples (isTuple_of ea) (isTuple_of ea') hu' h1
    simpa only [List.size_toArray, rl.length, rl'.length, ← hb] using this
  have hNe : RcNeAt A s (.ref a) (.ref a') (!b) := by
    have := RcNeAt.tuples (isTuple_of ea) (isTuple_of ea') hu' h1
    simpa only [List.size_toArray, rl.length, rl'.length, ← hb] using this
  refine ⟨?_, hRc, hNe⟩
  by_cases haa : a = a'
  · subst haa
    rw [ea] at ea'
    have := rl.inj rl' (tupO_inj (Option.some.inj ea'))
    subst this
    rw [eqLW_self (eqD_self n) _ _ e]
    exact EqAt.same _
  · exact EqAt.of_refs haa hRc
theorem eq_lsts {l l' : List D} (r : AtH w Φ s.heap v (.lst l)) (r' : AtH w Φ s.heap v' (.lst l')) (hu' : A.units < cLine) (e : (if l.length = l'.length then eqLW (eqD n) l l' else some false) = some b)
    (items : ∀ {vs vs' : List Value}, eqLW (eqD n) l l' = some b → RepL w Φ vs l → RepL w Φ vs' l' → ∀ j (h1 : j < vs.toArray.size) (h2 : j < vs'.toArray.size), EqAt A.in1 s vs.toArray[j] vs'.toArray[j] (ansAt (eqD n) l l' j)) : EqAt A s v v' b ∧ RcAt A s v v' b ∧ RcNeAt A s v v' (!b) := by
  obtain ⟨a, vs, k, rfl, ea, _, rl⟩ := r.lst_inv; obtain ⟨a', vs', k', rfl, ea', _, rl'⟩ := r'.lst_inv
  by_cases hl : l.length = l'.length
  · rw [if_pos hl] at e
    have h1 := items e rl rl'
    have hb := (eqLW_ans e).1
    rw [← hl, Nat.min_self, beq_self_eq_true, Bool.and_true] at hb
    have hsz : vs.toArray.size = vs'.toArray.size := by simp only [List.size_toArray, rl.length, rl'.length, hl]
    have hRc : RcAt A s (.ref a) (.ref a') b := by
      have := RcAt.lists (isList_of ea) (isList_of ea') hsz hu' h1
      simpa only [List.size_toArray, rl.length, rl'.length, ← hb] using this
    have hNe : RcNeAt A s (.ref a) (.ref a') (!b) := by
      have := RcNeAt.lists (isList_of ea) (isList_of ea') hsz hu' h1
      simpa only [List.size_toArray, rl.length, rl'.length, ← hb] using this
    refine ⟨?_, hRc, hNe⟩
    by_cases haa : a = a'
    · subst haa
      rw [ea] at ea'
      have := rl.inj rl' (lstO_inj (Option.some.inj ea'))
      subst this
      rw [eqLW_self (eqD_self n) _ _ e]
      exact EqAt.same _
    · exact EqAt.of_refs haa hRc
  · rw [if_neg hl, Option.some.injEq] at e
    subst e
    have hsz : (vs.toArray.size != vs'.toArray.size) = true := by
      simp only [List.size_toArray, rl.length, rl'.length, bne_iff_ne, ne_eq]; exact hl
    have hRc : RcAt A s (.ref a) (.ref a') false := RcAt.lists_lengths (isList_of ea) (isList_of ea') hsz hu'
    refine ⟨?_, hRc, RcNeAt.lists_lengths (isList_of ea) (isList_of ea') hsz hu'⟩
    refine EqAt.of_refs (fun haa => ?_) hRc
    subst haa
    rw [ea] at ea'
    have := rl.inj rl' (lstO_inj (Option.some.inj ea'))
    subst this
    exact hl rfl
end
theorem eq_at : ∀ (n : Nat) (A : Around) (s : Shared) (v v' : Value) (d d' : D) (b : Bool), Seen Φ s.heap → AtH w Φ s.heap v d → AtH w Φ s.heap v' d' → A.units + n < cLine →
    eqD n d d' = some b → EqAt A s v v' b ∧ RcAt A s v v' b ∧ RcNeAt A s v v' (!b) := by
  intro n
  induction n with
  | zero =>
    intro A s v v' d d' b hs r r' hu e
    have hu' : A.units < cLine := hu
    cases d with
    | int i => exact eq_int r r' hu' e
    | str x => exact eq_str r r' hu' e
    | tup l =>
      by_cases h : ∃ l', d' = .tup l'
      · obtain ⟨l', rfl⟩ := h; exact nn e
      · exact eq_tup r r' (fun l' q => h ⟨l', q⟩) hu' e
    | lst l =>
      by_cases h : ∃ l', d' = .lst l'
      · obtain ⟨l', rfl⟩ := h; exact nn e
      · exact eq_lst r r' (fun l' q => h ⟨l', q⟩) hu' e
    | _ => exact nn e
  | succ n ih =>
    intro A s v v' d d' b hs r r' hu e
    have hu' : A.units < cLine := by omega
    have hu1 : A.in1.units + n < cLine := by simp only [Around.in1_units]; omega
    have items : ∀ {vs vs' : List Value} {ds ds' : List D} {b : Bool}, RepL w Φ vs ds → RepL w Φ vs' ds' → eqLW (eqD n) ds ds' = some b →
        ∀ j (h1 : j < vs.toArray.size) (h2 : j < vs'.toArray.size), EqAt A.in1 s vs.toArray[j] vs'.toArray[j] (ansAt (eqD n) ds ds' j) := by
      intro vs vs' ds ds' b' rl rl' el j h1 h2
      simp only [List.size_toArray] at h1 h2
      obtain ⟨x, hx, rx⟩ := rl.getV (List.getElem?_eq_getElem h1)
      obtain ⟨y, hy, ry⟩ := rl'.getV (List.getElem?_eq_getElem h2)
      obtain ⟨c, hc, hc'⟩ := (eqLW_ans el).2 j x y hx hy
      rw [hc']
      simpa using (ih A.in1 s _ _ x y c hs (rx.at hs) (ry.at hs) hu1 hc).1
    cases d with
    | int i => exact eq_int r r' hu' e
    | str x => exact eq_str r r' hu' e
    | tup l =>
      by_cases h : ∃ l', d' = .tup l'
      · obtain ⟨l', rfl⟩ := h
        have e := eqD_tup.symm.trans e
        exact eq_tups r r' hu' e fun rl rl' => items rl rl' e
      · exact eq_tup r r' (fun l' q => h ⟨l', q⟩) hu' e
    | lst l =>
      by_cases h : ∃ l', d' = .lst l'
      · obtain ⟨l', rfl⟩ := h
        exact eq_lsts r r' hu' (eqD_lst.symm.trans e) fun el rl rl' => items rl rl' el
      · exact eq_lst r r' (fun l' q => h ⟨l', q⟩) hu' e
    | _ => exact nn e
end
end Mine

-- SnC
namespace Mine
open PySem PySem.SeqAt PySem.MeetsSeq
set_option linter.unusedSectionVars false
set_option linter.unusedSimpArgs false
set_option linter.unusedVariables false

section
variable {prog : Program} {w : World} {A : Around} {E : Value → Shared → Prop} {s : Shared} {Φ : PH}

/-- is the item the one that is sought? -/
noncomputable def isOne (w : World) (Φ : PH) (a : D) (y : Value) : Bool := @decide (∃ d, Rep w Φ y d ∧ eqD eqFuel d a = some true) (Classical.propDecidable _)
theorem isOne_eq {y : Value} {d a : D} {b : Bool} (r : Rep w Φ y d) (e : eqD eqFuel d a = some b) : isOne w Φ a y = b := by
  unfold isOne
  cases b with
  | true => exact @decide_eq_true _ (Classical.propDecidable _) ⟨d, r, e⟩
  | false =>
    refine @decide_eq_false _ (Classical.propDecidable _) fun ⟨d', r', e'⟩ => ?_
    rw [r'.inj r, e] at e'; cases e'
theorem eqEach_is {a : D} : ∀ {l : List D} {bs : List Bool} {vs : List Value}, eqEach l a = some bs → RepL w Φ vs l →
    bs = vs.map (isOne w Φ a) ∧ ∀ y ∈ vs, ∃ d, Rep w Φ y d ∧ eqD eqFuel d a = some (isOne w Φ a y)
  | [], bs, vs, e, r => by
    cases r
    simp only [eqEach, Option.some.injEq] at e
    subst e
    exact ⟨rfl, fun y h => by simp at h⟩
  | d :: ds, bs, vs, e, r => by
    cases r with
    | cons r1 rs =>
      simp only [eqEach, Option.bind_eq_some_iff, Option.map_eq_some_iff] at e
      obtain ⟨x, hx, y, hy, rfl⟩ := e
      obtain ⟨h1, h2⟩ := eqEach_is hy rs
      refine ⟨by rw [List.map_cons, isOne_eq r1 hx, h1], fun z hz => ?_⟩
      rcases List.mem_cons.mp hz with rfl | hz
      · exact ⟨_, r1, by rw [isOne_eq r1 hx]; exact hx⟩
      · exact h2 z hz
theorem one_at {a : D} {l : List D} {bs : List Bool} {vs : List Value} {v : Value} (hs : Seen Φ s.heap) (e : eqEach l a = some bs) (r : RepL w Φ vs l) (ra : AtH w Φ s.heap v a)
    {A : Around} (hu : A.units + eqFuel < cLine) : ∀ y, y ∈ vs.toArray → EqAt A s y v (isOne w Φ a y) := fun y hy => by
  obtain ⟨d, rd, ed⟩ := (eqEach_is e r).2 y (by simpa using hy)
  exact (eq_at eqFuel A s y v d a _ hs (rd.at hs) ra hu ed).1

theorem any_map_id {α : Type} (f : α → Bool) (l : List α) : (l.map f).any id = l.any f := by
  rw [List.any_map]; rfl

theorem in_seq {a b : D} {v c : Value} {r : Bool} {Q : Value → Shared → Prop} (hs : Seen Φ s.heap) (ra : AtH w Φ s.heap v a) {l : List D} (hb : b = .lst l ∨ b = .tup l) (rb : AtH w Φ s.heap c b)
    (e : inL l a = some r) (hu : A.units + 1 + eqFuel < cLine) (h : Q (.bool r) s) : wpAny (model prog w) A (compareOp .In v c) Q E s := by
  simp only [inL, Option.map_eq_some_iff] at e
  obtain ⟨bs, he, rfl⟩ := e
  rcases hb with rfl | rfl
  · obtain ⟨x, vs, n, rfl, ex, _, rl⟩ := rb.lst_inv
    rw [(eqEach_is he rl).1, any_map_id] at h
    exact in_listAt (isOne w Φ a) (isList_of ex) (one_at hs he rl ra (by simp only [Around.in1_units]; omega)) (by simpa using h)
  · obtain ⟨x, vs, n, rfl, ex, _, rl⟩ := rb.tup_inv
    rw [(eqEach_is he rl).1, any_map_id] at h
    exact in_tupleAt (isOne w Φ a) (isTuple_of ex) (one_at hs he rl ra (by simp only [Around.in1_units]; omega)) (by simpa using h)

/-- the reverse of wpAny_bind where the rest is a value -/
theorem of_bind_pure {α β : Type} {M : Model} {m : Sem α} {f : α → β} {Q : β → Shared → Prop} (h : wpAny M A (m >>= fun a => pure (f a)) Q E s) : wpAny M A m (fun a s' => Q (f a) s') E s := fun Γ p hΓ => by
  have := h Γ p hΓ
  rw [Sem.wp_bind'] at this
  exact this
theorem notIn_of_in {c x : Value} {Q : Value → Shared → Prop} (h : ∀ Q' : Value → Shared → Prop, (∀ b s', Q (.bool (!b)) s' → Q' (.bool b) s') → wpAny (model prog w) A (compareOp .In x c) Q' E s) :
    wpAny (model prog w) A (compareOp .NotIn x c) Q E s := by
  have h1 := h (fun v s' => ∃ b, v = .bool b ∧ Q (.bool (!b)) s') (fun b s' q => ⟨b, rfl, q⟩)
  have h2 : wpAny (model prog w) A (contains c x >>= fun a => pure (Value.bool a)) (fun v s' => ∃ b, v = .bool b ∧ Q (.bool (!b)) s') E s := h1
  show wpAny _ _ (contains c x >>= fun a => pure (Value.bool (!a))) Q E s
  refine wpAny_bind (wpAny_mono (of_bind_pure h2) (fun b s' q => ?_) fun _ _ q => q)
  obtain ⟨b', e, q⟩ := q
  injection e with e; subst e
  exact wpAny_pure q

/-- entries by a key's kind -/
inductive KV {K : Type} (w : World) (Φ : PH) (mk : K → Key) : List (K × Value) → List (Key × D) → Prop
  | nil : KV w Φ mk [] []
  | cons {k : K} {v : Value} {d : D} {l : List (K × Value)} {kvs : List (Key × D)} : Rep w Φ v d → KV w Φ mk l kvs → KV w Φ mk ((k, v) :: l) ((mk k, d) :: kvs)

section
variable {K : Type} [DecidableEq K] {mk : K → Key} (hmk : ∀ a b, mk a = mk b → a = b)
include hmk
theorem KV.get {l : List (K × Value)} {kvs : List (Key × D)} (r : KV w Φ mk l kvs) (k : K) : (∀ d, assocGet kvs (mk k) = some d → ∃ v, valueAt l k = some v ∧ Rep w Φ v d) ∧ (assocGet kvs (mk k) = none → valueAt l k = none) := by
  induction r with
  | nil => exact ⟨fun d e => by simp [assocGet] at e, fun _ => rfl⟩
  | @cons k' v d l kvs r1 rs ih =>
    by_cases hk : k' = k
    · subst hk
      refine ⟨fun d' e => ?_, fun e => ?_⟩
      · simp only [assocGet, List.find?_cons, decide_true, Option.map_some, Option.some.injEq] at e
        subst e
        exact ⟨v, by simp [valueAt], r1⟩
      · simp [assocGet] at e
    · have hk' : ¬ mk k' = mk k := fun e => hk (hmk _ _ e)
      have e1 : assocGet ((mk k', d) :: kvs) (mk k) = assocGet kvs (mk k) := by simp [assocGet, hk']
      have e2 : valueAt ((k', v) :: l) k = valueAt l k := by simp [valueAt, hk]
      rw [e1, e2]; exact ih
theorem KV.isSome {l : List (K × Value)} {kvs : List (Key × D)} (r : KV w Φ mk l kvs) (k : K) : (valueAt l k).isSome = (assocGet kvs (mk k)).isSome := by
  cases e : assocGet kvs (mk k) with
  | none => rw [(r.get hmk k).2 e]; rfl
  | some d => obtain ⟨v, e', _⟩ := (r.get hmk k).1 d e; rw [e']; rfl
theorem KV.map {l : List (K × Value)} {kvs : List (Key × D)} (r : KV w Φ mk l kvs) (k : K) {v : Value} {d : D} (rd : Rep w Φ v d) :
    KV w Φ mk (l.map fun kv => if kv.1 = k then (kv.1, v) else kv) (kvs.map fun kv => if kv.1 = mk k then (kv.1, d) else kv) := by
  induction r with
  | nil => exact .nil
  | @cons k' v' d' l kvs r1 rs ih =>
    simp only [List.map_cons]
    by_cases hk : k' = k
    · subst hk; simp only [if_true]; exact .cons rd ih
    · have hk' : ¬ mk k' = mk k := fun e => hk (hmk _ _ e)
      rw [if_neg hk, if_neg hk']; exact .cons r1 ih
theorem KV.append {l l' : List (K × Value)} {kvs kvs' : List (Key × D)} (r : KV w Φ mk l kvs) (r' : KV w Φ mk l' kvs') : KV w Φ mk (l ++ l') (kvs ++ kvs') := by
  induction r with
  | nil => exact r'
  | cons r1 _ ih => exact .cons r1 ih
theorem valueAt_any {l : List (K × Value)} {k : K} : (valueAt l k).isSome = l.any (fun kv => decide (kv.1 = k)) := by
  simp only [valueAt, Option.isSome_map]
  induction l with
  | nil => rfl
  | cons x r ih => by_cases hx : x.1 = k <;> simp [List.find?_cons, hx, ih]
theorem KV.set {l : List (K × Value)} {kvs : List (Key × D)} (r : KV w Φ mk l kvs) (k : K) {v : Value} {d : D} (rd : Rep w Φ v d) : KV w Φ mk (stored l k v) (assocSet kvs (mk k) d) := by
  have h := r.isSome hmk k
  rw [valueAt_any hmk] at h
  unfold stored assocSet
  rw [h]
  cases (assocGet kvs (mk k)).isSome with
  | true => simpa using r.map hmk k rd
  | false => simpa using r.append hmk (KV.cons (k := k) rd .nil)
end

/-- a dict whose keys are of a kind carried by value -/
structure ByVal (prog : Program) (w : World) (K : Type) [DecidableEq K] (mk : K → Key) (knd : KeyKind prog w K) : Prop where
  inj : ∀ a b, mk a = mk b → a = b
  is : ∀ (Φ : PH) k v, isKey Φ (mk k) v ↔ knd.is k v = true
  hash : ∀ k, hashK w (mk k) = knd.hash k
theorem byStr : ByVal prog w Str .s (strKind prog w) :=
  ⟨fun a b e => by injection e, fun Φ k v => ⟨fun ⟨t, e⟩ => by subst e; exact strKind_is prog w k t, fun e => by obtain ⟨t, rfl⟩ := Value.isStrOf_shape e; exact ⟨t, rfl⟩⟩, fun k => rfl⟩
theorem isInt_shape {k : Int} {v : Value} (e : Value.isInt k v = true) : ∃ t, v = .int k t := by
  cases v <;> simp [Value.isInt] at e
  subst e; exact ⟨_, rfl⟩
theorem byInt : ByVal prog w Int .i (intKind prog w) :=
  ⟨fun a b e => by injection e, fun Φ k v => ⟨fun ⟨t, e⟩ => by subst e; exact intKind_is prog w k t, fun e => isInt_shape e⟩, fun k => rfl⟩

section
variable {K : Type} [DecidableEq K] {mk : K → Key} {knd : KeyKind prog w K} (B : ByVal prog w K mk knd)
include B
theorem ByVal.of {es : List DictEntry} {kvs : List (Key × D)} (r : RepK w Φ es kvs) (hk : ∀ kv ∈ kvs, ∃ k, kv.1 = mk k) :
    ∃ l : List (K × Value), KV w Φ mk l kvs ∧ KeysOf knd es.toArray ∧ Pairs knd es l ∧ l.map (fun x => mk x.1) = kvs.map (·.1) := by
  induction kvs generalizing es with
  | nil =>
    cases r
    exact ⟨[], .nil, fun e he => by simp at he, .nil, rfl⟩
  | cons kv kvs ih =>
    cases r with
    | @cons e k d es _ h1 h2 h3 rs =>
      obtain ⟨l, a1, a2, a3, a4⟩ := ih rs (fun kv h => hk kv (List.mem_cons_of_mem _ h))
      obtain ⟨k', hk'⟩ := hk _ List.mem_cons_self
      simp only at hk'
      subst hk'
      have hi := (B.is Φ k' e.key).mp h1
      refine ⟨(k', e.val) :: l, .cons h3 a1, fun x hx => ?_, .cons hi rfl a3, by simp [a4]⟩
      rcases List.mem_cons.mp (by simpa using hx) with rfl | hx
      · exact ⟨k', hi, by rw [h2, B.hash]⟩
      · exact a2 x (by simpa using hx)
theorem ByVal.dictOf {h : Heap} {d : Addr} {es : List DictEntry} {n : Nat} {kvs : List (Key × D)} (e : h.get? d = some (dctO es n)) (r : RepK w Φ es kvs) (hn : (kvs.map (·.1)).Nodup) (hk : ∀ kv ∈ kvs, ∃ k, kv.1 = mk k) :
    ∃ l : List (K × Value), KV w Φ mk l kvs ∧ h.DictOf knd d l := by
  obtain ⟨l, a1, a2, a3, a4⟩ := B.of r hk
  refine ⟨l, a1, _, es.toArray, n, e, ⟨rfl, rfl, rfl⟩, rfl, a2, by simpa using a3, ?_⟩
  rw [← a4] at hn
  have : (l.map (fun x => mk x.1)) = (l.map (·.1)).map mk := by rw [List.map_map]; rfl
  rw [this] at hn
  exact List.Pairwise.of_map mk (fun a b h e => h (by rw [e])) hn
theorem ByVal.back {h : Heap} {d : Addr} {l : List (K × Value)} {kvs : List (Key × D)} (x : h.DictOf knd d l) (r : KV w Φ mk l kvs) : ∃ o, h.get? d = some o ∧ Cont w Φ o (.dct kvs) := by
  obtain ⟨o, es, ep, ho, ⟨hc, hd, hsl⟩, hdat, hk, hp, hn⟩ := x
  refine ⟨o, ho, ?_⟩
  have ho' : o = dctO es.toList ep := by
    obtain ⟨c, dd, dt, sl⟩ := o
    simp only at hc hd hsl hdat
    subst hc hd hsl hdat
    simp [dctO]
  rw [ho']
  have key : ∀ (es : List DictEntry) (l : List (K × Value)) (kvs : List (Key × D)), (∀ e ∈ es, ∃ k, knd.is k e.key = true ∧ e.hash = knd.hash k) → Pairs knd es l → KV w Φ mk l kvs → RepK w Φ es kvs ∧ kvs.map (·.1) = (l.map (·.1)).map mk := by
    intro es
    induction es with
    | nil => intro l kvs _ p r; cases p; cases r; exact ⟨.nil, rfl⟩
    | cons e es ih =>
      intro l kvs hk p r
      cases p with
      | @cons _ kv _ l p1 p2 ps =>
        cases r with
        | cons r1 rs =>
          obtain ⟨b1, b2⟩ := ih _ _ (fun e he => hk e (List.mem_cons_of_mem _ he)) ps rs
          obtain ⟨k', q1, q2⟩ := hk e List.mem_cons_self
          have : k' = _ := knd.inj _ _ _ q1 p1
          subst this
          refine ⟨.cons ((B.is Φ _ _).mpr q1) (by rw [B.hash]; exact q2) (p2 ▸ r1) b1, ?_⟩
          simp [b2]
  obtain ⟨b1, b2⟩ := key es.toList l kvs (fun e he => hk e (by simpa using he)) hp r
  refine .dct b1 ?_
  rw [b2]
  exact hn.map (f := mk) fun a b h => fun e => h (B.inj _ _ e)
end
end
end Mine

-- SnD
namespace Mine
open PySem PySem.SeqAt PySem.MeetsSeq
set_option linter.unusedSectionVars false
set_option linter.unusedSimpArgs false
set_option linter.unusedVariables false

section
variable {prog : Program} {w : World} {A : Around} {E : Value → Shared → Prop} {s : Shared} {Φ : PH}

noncomputable abbrev pairKind (prog : Program) (w : World) : HeapKind prog w (List Str) := tupleKind (strKind prog w)

theorem isPair {h : Heap} {x y : Str} {a : Addr} (hs : Seen Φ h) (k : isKey Φ (.p x y) (.ref a)) : (pairKind prog w).is h [x, y] a := by
  obtain ⟨a', t, u, n, e, f, _⟩ := k
  injection e with e; subst e
  exact ⟨_, _, n, hs _ _ f, rfl, rfl, .cons (strKind_is prog w x t) (.cons (strKind_is prog w y u) .nil)⟩

inductive KP (w : World) (Φ : PH) : List (List Str × Addr × Value) → List (Key × D) → Prop
  | nil : KP w Φ [] []
  | cons {x y : Str} {a : Addr} {v : Value} {d : D} {l : List (List Str × Addr × Value)} {kvs : List (Key × D)} : isKey Φ (.p x y) (.ref a) → Rep w Φ v d → KP w Φ l kvs → KP w Φ (([x, y], a, v) :: l) ((.p x y, d) :: kvs)

theorem KP.get {l : List (List Str × Addr × Value)} {kvs : List (Key × D)} (r : KP w Φ l kvs) (x y : Str) :
    (∀ d, assocGet kvs (.p x y) = some d → ∃ p, atKey l [x, y] = some p ∧ Rep w Φ p.2 d) ∧ (assocGet kvs (.p x y) = none → atKey l [x, y] = none) := by
  induction r with
  | nil => exact ⟨fun d e => by simp [assocGet] at e, fun _ => rfl⟩
  | @cons x' y' a v d l kvs _ r1 rs ih =>
    by_cases hk : x' = x ∧ y' = y
    · obtain ⟨rfl, rfl⟩ := hk
      refine ⟨fun d' e => ?_, fun e => ?_⟩
      · simp only [assocGet, List.find?_cons, decide_true, Option.map_some, Option.some.injEq] at e
        subst e
        exact ⟨(a, v), by simp [atKey], r1⟩
      · simp [assocGet] at e
    · have e1 : assocGet ((.p x' y', d) :: kvs) (.p x y) = assocGet kvs (.p x y) := by
        have : ¬ (Key.p x' y' = Key.p x y) := fun e => hk (by injection e with e1 e2; exact ⟨e1, e2⟩)
        simp [assocGet, this]
      have e2 : atKey (([x', y'], a, v) :: l) [x, y] = atKey l [x, y] := by
        have : ¬ ([x', y'] = [x, y]) := fun e => hk (by injection e with e1 e2; injection e2 with e2 _; exact ⟨e1, e2⟩)
        simp [atKey, this]
      rw [e1, e2]; exact ih
theorem KP.isSome {l : List (List Str × Addr × Value)} {kvs : List (Key × D)} (r : KP w Φ l kvs) (x y : Str) : (atKey l [x, y]).isSome = (assocGet kvs (.p x y)).isSome := by
  cases e : assocGet kvs (.p x y) with
  | none => rw [(r.get x y).2 e]; rfl
  | some d => obtain ⟨v, e', _⟩ := (r.get x y).1 d e; rw [e']; rfl
theorem KP.map {l : List (List Str × Addr × Value)} {kvs : List (Key × D)} (r : KP w Φ l kvs) (x y : Str) {v : Value} {d : D} (rd : Rep w Φ v d) :
    KP w Φ (l.map (putAt [x, y] v)) (kvs.map fun kv => if kv.1 = .p x y then (kv.1, d) else kv) := by
  induction r with
  | nil => exact .nil
  | @cons x' y' a v' d' l kvs k r1 rs ih =>
    simp only [List.map_cons, putAt]
    by_cases hk : x' = x ∧ y' = y
    · obtain ⟨rfl, rfl⟩ := hk
      simp only [if_true]; exact .cons k rd ih
    · have e1 : ¬ (Key.p x' y' = Key.p x y) := fun e => hk (by injection e with e1 e2; exact ⟨e1, e2⟩)
      have e2 : ¬ ([x', y'] = [x, y]) := fun e => hk (by injection e with e1 e2; injection e2 with e2 _; exact ⟨e1, e2⟩)
      rw [if_neg e1, if_neg e2]; exact .cons k r1 ih
theorem KP.append {l l' : List (List Str × Addr × Value)} {kvs kvs' : List (Key × D)} (r : KP w Φ l kvs) (r' : KP w Φ l' kvs') : KP w Φ (l ++ l') (kvs ++ kvs') := by
  induction r with
  | nil => exact r'
  | cons k r1 _ ih => exact .cons k r1 ih
theorem KP.set {l : List (List Str × Addr × Value)} {kvs : List (Key × D)} (r : KP w Φ l kvs) {x y : Str} {a : Addr} (k : isKey Φ (.p x y) (.ref a)) {v : Value} {d : D} (rd : Rep w Φ v d) :
    KP w Φ (storedH l [x, y] a v) (assocSet kvs (.p x y) d) := by
  have h := r.isSome x y
  unfold storedH assocSet
  rw [h]
  cases (assocGet kvs (.p x y)).isSome with
  | true => simpa using r.map x y rd
  | false => simpa using r.append (KP.cons k rd .nil)
theorem KP.mem_key {l : List (List Str × Addr × Value)} {kvs : List (Key × D)} (r : KP w Φ l kvs) {z : List Str × Addr × Value} (hz : z ∈ l) {x y : Str} (e : z.1 = [x, y]) : Key.p x y ∈ kvs.map (·.1) := by
  induction r with
  | nil => simp at hz
  | @cons x' y' a' v' d' l kvs _ _ rs ih =>
    rcases List.mem_cons.mp hz with rfl | hz
    · injection e with q1 q2; injection q2 with q2 _
      subst q1 q2
      simp
    · exact List.mem_cons_of_mem _ (ih hz)
theorem KP.key_mem {l : List (List Str × Addr × Value)} {kvs : List (Key × D)} (r : KP w Φ l kvs) : (l.map (·.1)).Nodup → (kvs.map (·.1)).Nodup := by
  induction r with
  | nil => exact fun _ => .nil
  | @cons x y a v d l kvs _ _ rs ih =>
    intro hn
    rw [List.map_cons, List.nodup_cons] at hn ⊢
    refine ⟨fun hm => hn.1 ?_, ih hn.2⟩
    clear ih hn
    simp only at hm ⊢
    induction rs with
    | nil => simp at hm
    | @cons x' y' a' v' d' l kvs _ _ rs ih =>
      rw [List.map_cons] at hm ⊢
      rcases List.mem_cons.mp hm with e | hm
      · injection e with e1 e2; subst e1 e2; exact List.mem_cons_self
      · exact List.mem_cons_of_mem _ (ih hm)
theorem KP.of (prog : Program) {es : List DictEntry} {kvs : List (Key × D)} (r : RepK w Φ es kvs) (hk : ∀ kv ∈ kvs, ∃ x y, kv.1 = .p x y) :
    ∃ l, KP w Φ l kvs ∧ es = l.map (entryOfKey (pairKind prog w)) ∧ (∀ h, Seen Φ h → ∀ x ∈ l, (pairKind prog w).is h x.1 x.2.1) ∧ ((kvs.map (·.1)).Nodup → (l.map (·.1)).Nodup) := by
  induction kvs generalizing es with
  | nil =>
    cases r
    exact ⟨[], .nil, rfl, fun _ _ _ h => by simp at h, fun _ => .nil⟩
  | cons kv kvs ih =>
    cases r with
    | @cons e k d es _ h1 h2 h3 rs =>
      obtain ⟨l, a1, a2, a3, a4⟩ := ih rs (fun kv h => hk kv (List.mem_cons_of_mem _ h))
      obtain ⟨x, y, hxy⟩ := hk _ List.mem_cons_self
      simp only at hxy
      subst hxy
      obtain ⟨a, t, u, n, e1, e2, e3⟩ := id h1
      have h1' : isKey Φ (.p x y) (.ref a) := ⟨a, t, u, n, rfl, e2, e3⟩
      refine ⟨([x, y], a, e.val) :: l, .cons h1' h3 a1, ?_, fun h hs z hz => ?_, fun hn => ?_⟩
      · rw [List.map_cons, ← a2]
        congr 1
        obtain ⟨eh, ek, ev⟩ := e
        simp only at e1 h2
        rw [e1, h2]
        rfl
      · rcases List.mem_cons.mp hz with rfl | hz
        · exact isPair hs h1'
        · exact a3 h hs z hz
      · rw [List.map_cons, List.nodup_cons] at hn ⊢
        refine ⟨fun hm => hn.1 ?_, a4 hn.2⟩
        obtain ⟨z, hz, ez⟩ := List.mem_map.mp hm
        simp only at ez
        exact a1.mem_key hz ez
theorem KP.back {h : Heap} {d : Addr} {l : List (List Str × Addr × Value)} {kvs : List (Key × D)} (x : h.DictOfH (pairKind prog w) d l) (r : KP w Φ l kvs) : ∃ o, h.get? d = some o ∧ Cont w Φ o (.dct kvs) := by
  obtain ⟨o, es, ep, ho, ⟨hc, hd, hsl⟩, hdat, he, his, hn⟩ := x
  refine ⟨o, ho, ?_⟩
  have ho' : o = dctO es.toList ep := by
    obtain ⟨c, dd, dt, sl⟩ := o
    simp only at hc hd hsl hdat
    subst hc hd hsl hdat
    simp [dctO]
  rw [ho', he]
  refine .dct ?_ (r.key_mem hn)
  clear ho he hn his
  induction r with
  | nil => exact .nil
  | cons k r1 rs ih => exact .cons k rfl r1 ih

theorem kinds_s {x : Str} {kvs : List (Key × D)} (h : kindsOk (.s x) kvs = true) : ∀ kv ∈ kvs, ∃ k, kv.1 = Key.s k := fun kv hkv => by
  have := List.all_eq_true.mp h kv hkv
  obtain ⟨k, d⟩ := kv
  cases k with
  | s y => exact ⟨y, rfl⟩
  | i => simp [Key.kind] at this
  | p => simp [Key.kind] at this
theorem kinds_i {x : Int} {kvs : List (Key × D)} (h : kindsOk (.i x) kvs = true) : ∀ kv ∈ kvs, ∃ k, kv.1 = Key.i k := fun kv hkv => by
  have := List.all_eq_true.mp h kv hkv
  obtain ⟨k, d⟩ := kv
  cases k with
  | i y => exact ⟨y, rfl⟩
  | s => simp [Key.kind] at this
  | p => simp [Key.kind] at this
theorem kinds_p {x y : Str} {kvs : List (Key × D)} (h : kindsOk (.p x y) kvs = true) : ∀ kv ∈ kvs, ∃ x y, kv.1 = Key.p x y := fun kv hkv => by
  have := List.all_eq_true.mp h kv hkv
  obtain ⟨k, d⟩ := kv
  cases k with
  | p y z => exact ⟨y, z, rfl⟩
  | i => simp [Key.kind] at this
  | s => simp [Key.kind] at this

section
variable {d : Addr} {es : List DictEntry} {n : Nat} {kvs : List (Key × D)} {k : Key} {key : Value} (hs : Seen Φ s.heap) (e : s.heap.get? d = some (dctO es n)) (r : RepK w Φ es kvs) (hn : (kvs.map (·.1)).Nodup)
  (hd : d ≠ sysModules) (hk : kindsOk k kvs = true) (hkey : isKey Φ k key) (hu : A.units + 1 < cLine)
include hs e r hn hd hk hkey hu

theorem dict_in {Q : Value → Shared → Prop} (h : ∀ tk, Q (.bool (assocGet kvs k).isSome) { s with toks := tk }) : wpAny (model prog w) A (compareOp .In key (.ref d)) Q E s := by
  have hd' : (d == sysModules) = false := by simpa using hd
  cases k with
  | s x =>
    obtain ⟨l, a1, a2⟩ := (byStr (prog := prog)).dictOf e r hn (kinds_s hk)
    refine wpAny_in_of (((byStr (prog := prog)).is Φ x key).mp hkey) hd' a2.mapOf ?_
    rw [a1.isSome (byStr (prog := prog) (w := w)).inj]; exact h _
  | i x =>
    obtain ⟨l, a1, a2⟩ := (byInt (prog := prog)).dictOf e r hn (kinds_i hk)
    refine wpAny_in_of (((byInt (prog := prog) (w := w)).is Φ x key).mp hkey) hd' a2.mapOf ?_
    rw [a1.isSome (byInt (prog := prog) (w := w)).inj]; exact h _
  | p x y =>
    obtain ⟨a, t, u, m, rfl, f, f2⟩ := id hkey
    obtain ⟨l, a1, a2, a3, a4⟩ := KP.of prog r (kinds_p hk)
    refine wpAny_in_heap (knd := pairKind prog w) (xs := l) (k := [x, y]) hu (isPair hs hkey) hd' ⟨_, es.toArray, n, e, ⟨rfl, rfl, rfl⟩, rfl, by simpa using a2, a3 _ hs, a4 hn⟩ ?_
    rw [a1.isSome]; exact h _

theorem dict_getItem {dv : D} {Q : Value → Shared → Prop} (hg : assocGet kvs k = some dv) (h : ∀ v tk, Rep w Φ v dv → Q v { s with toks := tk }) : wpAny (model prog w) A (getItem (.ref d) key) Q E s := by
  cases k with
  | s x =>
    obtain ⟨l, a1, a2⟩ := (byStr (prog := prog)).dictOf e r hn (kinds_s hk)
    obtain ⟨v, hv, rv⟩ := (a1.get (byStr (prog := prog) (w := w)).inj x).1 dv hg
    exact wpAny_getItem_of (((byStr (prog := prog) (w := w)).is Φ x key).mp hkey) a2.mapOf hv (h v _ rv)
  | i x =>
    obtain ⟨l, a1, a2⟩ := (byInt (prog := prog)).dictOf e r hn (kinds_i hk)
    obtain ⟨v, hv, rv⟩ := (a1.get (byInt (prog := prog) (w := w)).inj x).1 dv hg
    exact wpAny_getItem_of (((byInt (prog := prog) (w := w)).is Φ x key).mp hkey) a2.mapOf hv (h v _ rv)
  | p x y =>
    obtain ⟨a, t, u, m, rfl, f, f2⟩ := id hkey
    obtain ⟨l, a1, a2, a3, a4⟩ := KP.of prog r (kinds_p hk)
    obtain ⟨p, hp, rp⟩ := (a1.get x y).1 dv hg
    exact wpAny_getItem_heap (knd := pairKind prog w) (xs := l) (k := [x, y]) hu (isPair hs hkey) ⟨_, es.toArray, n, e, ⟨rfl, rfl, rfl⟩, rfl, by simpa using a2, a3 _ hs, a4 hn⟩ hp (h p.2 _ rp)

theorem KV_length {K : Type} {mk : K → Key} {l : List (K × Value)} {kvs : List (Key × D)} (r : KV w Φ mk l kvs) : l.length = kvs.length := by
  induction r with
  | nil => rfl
  | cons _ _ ih => simp [ih]
theorem KP_length {l : List (List Str × Addr × Value)} {kvs : List (Key × D)} (r : KP w Φ l kvs) : l.length = kvs.length := by
  induction r with
  | nil => rfl
  | cons _ _ _ ih => simp [ih]

theorem dict_setItem {dv : D} {v : Value} {Q : Unit → Shared → Prop} (rv : Rep w Φ v dv) (hl : kvs.length ≤ 1000)
    (h : ∀ h' tk o', Heap.SameBut d s.heap h' → h'.get? d = some o' → Cont w Φ o' (.dct (assocSet kvs k dv)) → Q () { s with heap := h', toks := tk }) : wpAny (model prog w) A (setItem (.ref d) key v) Q E s := by
  cases k with
  | s x =>
    obtain ⟨l, a1, a2⟩ := (byStr (prog := prog)).dictOf e r hn (kinds_s hk)
    refine wpAny_setItem_pairs (((byStr (prog := prog) (w := w)).is Φ x key).mp hkey) a2 (fun h' hm' hs' => ?_) (by rw [KV_length hs e r hn hd hk hkey hu a1, sizeLine_eq]; omega)
    obtain ⟨o', q1, q2⟩ := (byStr (prog := prog)).back hm' (a1.set (byStr (prog := prog) (w := w)).inj x rv)
    exact h h' _ o' hs' q1 q2
  | i x =>
    obtain ⟨l, a1, a2⟩ := (byInt (prog := prog)).dictOf e r hn (kinds_i hk)
    refine wpAny_setItem_pairs (((byInt (prog := prog) (w := w)).is Φ x key).mp hkey) a2 (fun h' hm' hs' => ?_) (by rw [KV_length hs e r hn hd hk hkey hu a1, sizeLine_eq]; omega)
    obtain ⟨o', q1, q2⟩ := (byInt (prog := prog)).back hm' (a1.set (byInt (prog := prog) (w := w)).inj x rv)
    exact h h' _ o' hs' q1 q2
  | p x y =>
    obtain ⟨a, t, u, m, rfl, f, f2⟩ := id hkey
    obtain ⟨l, a1, a2, a3, a4⟩ := KP.of prog r (kinds_p hk)
    refine wpAny_setItem_heap (knd := pairKind prog w) (xs := l) (k := [x, y]) hu (isPair hs hkey) ⟨_, es.toArray, n, e, ⟨rfl, rfl, rfl⟩, rfl, by simpa using a2, a3 _ hs, a4 hn⟩ (fun h' hm' hs' => ?_)
      (by rw [KP_length hs e r hn hd hk hkey hu a1, sizeLine_eq]; omega)
    obtain ⟨o', q1, q2⟩ := KP.back hm' (a1.set ⟨a, t, u, m, rfl, f, f2⟩ rv)
    exact h h' _ o' hs' q1 q2
end
end
end Mine

-- SnE
namespace Mine
open PySem PySem.SeqAt PySem.MeetsSeq
set_option linter.unusedSectionVars false
set_option linter.unusedSimpArgs false
set_option linter.unusedVariables false

noncomputable def NoX : Addr → Prop := fun _ => False
/-- the module's names stand: addresses from here on are no start-up's -/
noncomputable def Low (h : Heap) : Prop := ∃ o, h.get? mainGlobals = some o
theorem Low.lt {h : Heap} (x : Low h) : sysModules < h.objs.size := by
  obtain ⟨o, ho⟩ := x
  have := Heap.lt_size ho
  exact Nat.lt_trans (by decide) this
theorem Low.keep {h h' : Heap} (x : Low h) (hk : ∀ b o, h.get? b = some o → h'.get? b = some o) : Low h' := let ⟨o, ho⟩ := x; ⟨o, hk _ _ ho⟩

/-- what an operation that only makes things hands on -/
noncomputable def Yields (w : World) (Φ : PH) (s : Shared) (d : D) (Q : Value → Shared → Prop) : Prop :=
  ∀ v h' tk Φ', Chg NoX Φ Φ' s.heap h' → Seen Φ' h' → Rep w Φ' v d → Q v { s with heap := h', toks := tk }

section
variable {prog : Program} {w : World} {A : Around} {E : Value → Shared → Prop} {s : Shared} {Φ : PH}

theorem Yields.now {d : D} {Q : Value → Shared → Prop} (y : Yields w Φ s d Q) (hs : Seen Φ s.heap) {v : Value} (r : Rep w Φ v d) (tk : Nat) : Q v { s with toks := tk } := y v s.heap tk Φ .refl hs r
theorem Yields.new {d : D} {Q : Value → Shared → Prop} (y : Yields w Φ s d Q) (hs : Seen Φ s.heap) (hl : Low s.heap) {o : Obj} (c : Cont w Φ o d) (tk : Nat) :
    Q (.ref s.heap.objs.size) { s with heap := s.heap.push o, toks := tk } :=
  y _ _ tk _ (Chg.alloc hs o) (hs.alloc c.notFreed) (.obj (put_self _ _ _) (Nat.ne_of_gt hl.lt) (c.mono (put_mono hs.fresh)))

theorem mem_at {a b : D} {v c : Value} {r : Bool} {Q : Value → Shared → Prop} (hs : Seen Φ s.heap) (ra : AtH w Φ s.heap v a) (rb : AtH w Φ s.heap c b) (hkey : ∀ k, keyOf a = some k → isKey Φ k v)
    (e : memD a b = some r) (hu : A.units + 20 < cLine) (h : ∀ tk, Q (.bool r) { s with toks := tk }) : wpAny (model prog w) A (compareOp .In v c) Q E s := by
  have hf : eqFuel = 12 := rfl
  cases b with
  | tup l => exact in_seq hs ra (.inr rfl) rb e (by omega) (h _)
  | lst l => exact in_seq hs ra (.inl rfl) rb e (by omega) (h _)
  | dct kvs =>
    obtain ⟨x, es, n, rfl, ex, hx, rk, hn⟩ := rb.dct_inv
    have e : (match keyOf a with
      | some k => if kindsOk k kvs then some (assocGet kvs k).isSome else none
      | none => none) = some r := e
    cases ek : keyOf a with
    | none => rw [ek] at e; exact nn e
    | some k =>
      rw [ek] at e
      obtain ⟨hk, rfl⟩ := isome e
      exact dict_in hs ex rk hn hx hk (hkey k ek) (by omega) h
  | _ => exact nn e

theorem keyOf_tup {l : List D} {k : Key} (e : keyOf (.tup l) = some k) : ∃ x y, l = [.str x, .str y] ∧ k = .p x y := by
  rcases l with _ | ⟨a, _ | ⟨b, _ | ⟨c, l⟩⟩⟩
  · exact nn e
  · cases a <;> exact nn e
  · cases a with
    | str x =>
      cases b with
      | str y => exact ⟨x, y, rfl, (Option.some.inj e).symm⟩
      | _ => exact nn e
    | _ => exact nn e
  · cases a with
    | str x => cases b <;> exact nn e
    | _ => exact nn e
theorem keyOf_isKey {v : Value} {a : D} (r : Rep w Φ v a) {k : Key} (e : keyOf a = some k) : isKey Φ k v := by
  cases a with
  | int n => obtain rfl := Option.some.inj e; exact r.int_inv
  | str x => obtain rfl := Option.some.inj e; exact r.str_inv
  | tup l =>
    obtain ⟨x, y, rfl, rfl⟩ := keyOf_tup e
    obtain ⟨a, vs, n, rfl, ea, es, rl⟩ := r.tup_inv
    cases rl with
    | cons r1 rs =>
      cases rs with
      | cons r2 rs =>
        cases rs
        obtain ⟨t, rfl⟩ := r1.str_inv
        obtain ⟨u, rfl⟩ := r2.str_inv
        exact ⟨a, t, u, n, rfl, ea, es⟩
  | _ => exact nn e
theorem rep_ofKey {v : Value} {k : Key} (h : isKey Φ k v) : Rep w Φ v (ofKey k) := by
  cases k with
  | s x => obtain ⟨t, rfl⟩ := h; exact .str _ _
  | i x => obtain ⟨t, rfl⟩ := h; exact .int _ _
  | p x y => obtain ⟨a, t, u, n, rfl, e, hx⟩ := h; exact .obj e hx (.tup (.cons (.str _ _) (.cons (.str _ _) .nil)))

theorem two_ints {a b : D} {f : Int → Int → Bool} {r : Bool} (e : (match a, b with | .int a, .int b => some (f a b) | _, _ => none) = some r) : ∃ x y, a = .int x ∧ b = .int y ∧ f x y = r := by
  cases a with
  | int x =>
    cases b with
    | int y => exact ⟨x, y, rfl, rfl, Option.some.inj e⟩
    | _ => exact nn e
  | _ => exact nn e
theorem cmp_at {op : CmpOp} {a b : D} {v c : Value} {r : Bool} {Q : Value → Shared → Prop} (hs : Seen Φ s.heap) (ra : AtH w Φ s.heap v a) (rb : AtH w Φ s.heap c b) (hkey : ∀ k, keyOf a = some k → isKey Φ k v)
    (e : cmpV op a b = some r) (hu : A.units + 20 < cLine) (h : ∀ tk, Q (.bool r) { s with toks := tk }) : wpAny (model prog w) A (compareOp op v c) Q E s := by
  have hf : eqFuel = 12 := rfl
  cases op with
  | Eq => exact (eq_at eqFuel A s v c a b r hs ra rb (by omega) e).2.1 prog w E Q (h s.toks)
  | NotEq =>
    obtain ⟨x, e9, rfl⟩ := msome e
    exact (eq_at eqFuel A s v c a b x hs ra rb (by omega) e9).2.2 prog w E Q (h s.toks)
  | In => exact mem_at hs ra rb hkey e hu h
  | NotIn =>
    obtain ⟨x, e9, rfl⟩ := msome e
    exact notIn_of_in fun Q' hQ => mem_at hs ra rb hkey e9 hu fun tk => hQ x _ (h tk)
  | Lt =>
    obtain ⟨x, y, rfl, rfl, rfl⟩ := two_ints e
    obtain ⟨t, rfl⟩ := ra.int_inv; obtain ⟨u, rfl⟩ := rb.int_inv
    exact P.lt_int (h s.toks)
  | LtE =>
    obtain ⟨x, y, rfl, rfl, rfl⟩ := two_ints e
    obtain ⟨t, rfl⟩ := ra.int_inv; obtain ⟨u, rfl⟩ := rb.int_inv
    exact P.le_int (h s.toks)
  | Gt =>
    obtain ⟨x, y, rfl, rfl, rfl⟩ := two_ints e
    obtain ⟨t, rfl⟩ := ra.int_inv; obtain ⟨u, rfl⟩ := rb.int_inv
    exact P.gt_int (h s.toks)
  | _ => exact nn e

theorem str_append_length (x y : Str) : (x ++ y).length = x.length + y.length := Str.length_append x y
theorem lines1000 : (1000 : Nat) ≤ sizeLine := by rw [sizeLine_eq]; decide

theorem binD_elim {m : Operator → D → D → D → Prop} (h1 : ∀ x y, m .Add (.int x) (.int y) (.int (x + y))) (h2 : ∀ x y, m .Sub (.int x) (.int y) (.int (x - y))) (h3 : ∀ x y, 0 < y → m .Mod (.int x) (.int y) (.int (x % y)))
    (h4 : ∀ x y : Str, x.length + y.length ≤ 1000 → m .Add (.str x) (.str y) (.str (x ++ y))) (h5 : ∀ x y : List D, x.length + y.length ≤ 1000 → m .Add (.lst x) (.lst y) (.lst (x ++ y))) {op : Operator} {a b d : D} (e : binD op a b = some d) : m op a b d := by
  cases op with
  | Add =>
    cases a with
    | int x =>
      cases b with
      | int y => exact Option.some.inj e ▸ h1 x y
      | _ => exact nn e
    | str x =>
      cases b with
      | str y =>
        by_cases h : x.length + y.length ≤ 1000
        · exact Option.some.inj ((if_pos h).symm.trans e) ▸ h4 x y h
        · exact nn ((if_neg h).symm.trans e)
      | _ => exact nn e
    | lst x =>
      cases b with
      | lst y =>
        by_cases h : x.length + y.length ≤ 1000
        · exact Option.some.inj ((if_pos h).symm.trans e) ▸ h5 x y h
        · exact nn ((if_neg h).symm.trans e)
      | _ => exact nn e
    | _ => exact nn e
  | Sub =>
    cases a with
    | int x =>
      cases b with
      | int y => exact Option.some.inj e ▸ h2 x y
      | _ => exact nn e
    | _ => exact nn e
  | Mod =>
    cases a with
    | int x =>
      cases b with
      | int y =>
        by_cases h : 0 < y
        · exact Option.some.inj ((if_pos h).symm.trans e) ▸ h3 x y h
        · exact nn ((if_neg h).symm.trans e)
      | _ => exact nn e
    | _ => exact nn e
  | _ => exact nn e
theorem empty_add {x y : Str} (h : (x.length == 0) = true) : x ++ y = y := by
  have hx0 : x.length = 0 := beq_iff_eq.mp h
  obtain ⟨c⟩ := x
  rw [show (⟨c⟩ : Str) = Str.empty from congrArg Str.mk (Array.eq_empty_of_size_eq_zero hx0)]
  exact Str.empty_append y
theorem add_empty {x y : Str} (h : (y.length == 0) = true) : x ++ y = x := by
  have hx0 : y.length = 0 := beq_iff_eq.mp h
  obtain ⟨c⟩ := y
  rw [show (⟨c⟩ : Str) = Str.empty from congrArg Str.mk (Array.eq_empty_of_size_eq_zero hx0)]
  exact Str.append_empty x
theorem bin_at {op : Operator} {a b d : D} {v c : Value} {Q : Value → Shared → Prop} (hs : Seen Φ s.heap) (hl : Low s.heap) (ra : Rep w Φ v a) (rb : Rep w Φ c b)
    (e : binD op a b = some d) (h : Yields w Φ s d Q) : wpAny (model prog w) A (binaryOp op v c) Q E s := by
  revert ra rb h
  refine binD_elim (m := fun op a b d => Rep w Φ v a → Rep w Φ c b → Yields w Φ s d Q → wpAny (model prog w) A (binaryOp op v c) Q E s) (fun x y ra rb h => ?_) (fun x y ra rb h => ?_) (fun x y hb ra rb h => ?_) (fun x y hxy ra rb h => ?_) (fun x y hxy ra rb h => ?_) e
  · obtain ⟨t, rfl⟩ := ra.int_inv; obtain ⟨u, rfl⟩ := rb.int_inv
    exact P.add_int (h.now hs (.int _ _) _)
  · obtain ⟨t, rfl⟩ := ra.int_inv; obtain ⟨u, rfl⟩ := rb.int_inv
    exact P.sub_int (h.now hs (.int _ _) _)
  · obtain ⟨t, rfl⟩ := ra.int_inv; obtain ⟨u, rfl⟩ := rb.int_inv
    refine PyProof.Rows.mod_int' (Int.ne_of_gt hb) ?_
    rw [Int.fmod_eq_emod_of_nonneg _ (Int.le_of_lt hb)]
    exact h.now hs (.int _ _) _
  · obtain ⟨t, rfl⟩ := ra.str_inv; obtain ⟨u, rfl⟩ := rb.str_inv
    refine P.add_str ?_
    split
    · rename_i hx
      rw [empty_add hx] at h
      exact h.now hs (.str _ _) _
    · split
      · rename_i hy
        rw [add_empty hy] at h
        exact h.now hs (.str _ _) _
      · refine ⟨?_, h.now hs (.str _ _) _⟩
        rw [str_append_length]
        exact Nat.le_trans hxy lines1000
  · obtain ⟨p, vs, n, rfl, ep, _, rl⟩ := ra.lst_inv
    obtain ⟨q, us, m, rfl, eq, _, rl'⟩ := rb.lst_inv
    refine P.add_list (hs _ _ ep) (hs _ _ eq) ?_ (by simp only [List.size_toArray, rl.length, rl'.length]; exact Nat.le_trans hxy lines1000)
    have := h.new hs hl (o := lstO (vs ++ us) 0) (.lst (rl.append rl')) s.toks
    simpa [lstO] using this

theorem idx_some {l : List D} {i : Int} {d : D} (e : idx l i = some d) : 0 ≤ i ∧ i ≤ 1000 ∧ l[i.toNat]? = some d := by
  by_cases h : 0 ≤ i ∧ i ≤ 1000
  · exact ⟨h.1, h.2, (if_pos h).symm.trans e⟩
  · exact nn ((if_neg h).symm.trans e)

theorem sub_at {a i d : D} {v c : Value} {Q : Value → Shared → Prop} (hs : Seen Φ s.heap) (ra : AtH w Φ s.heap v a) (ri : Rep w Φ c i)
    (e : subD a i = some d) (hu : A.units + 20 < cLine) (h : ∀ v tk, Rep w Φ v d → Q v { s with toks := tk }) : wpAny (model prog w) A (getItem v c) Q E s := by
  cases a with
  | lst l =>
    cases i with
    | int k =>
      obtain ⟨t, rfl⟩ := ri.int_inv
      obtain ⟨p, vs, n, rfl, ep, _, rl⟩ := ra.lst_inv
      obtain ⟨h0, h1, hx⟩ := idx_some (l := l) e
      obtain ⟨x, hx', rx⟩ := rl.get hx
      exact wpAny_getItem_list (isList_of ep) h0 (by omega) (by simpa using hx') (h x s.toks rx)
    | _ => exact nn e
  | tup l =>
    cases i with
    | int k =>
      obtain ⟨t, rfl⟩ := ri.int_inv
      obtain ⟨p, vs, n, rfl, ep, _, rl⟩ := ra.tup_inv
      obtain ⟨h0, h1, hx⟩ := idx_some (l := l) e
      obtain ⟨x, hx', rx⟩ := rl.get hx
      have hk : k.toNat < vs.length := (List.getElem?_eq_some_iff.mp hx').1
      exact P.getItem_tuple ep (by omega) (by omega) (seqIndex_of h0 (by simp only [List.size_toArray]; omega)) (by simpa using hx') (h x s.toks rx)
    | _ => exact nn e
  | dct kvs =>
    obtain ⟨x, es, n, rfl, ex, hx, rk, hn⟩ := ra.dct_inv
    have e : (match keyOf i with
      | some k => if kindsOk k kvs then assocGet kvs k else none
      | none => none) = some d := e
    cases ek : keyOf i with
    | none => rw [ek] at e; exact nn e
    | some k' =>
      rw [ek] at e
      by_cases hk : kindsOk k' kvs = true
      · exact dict_getItem hs ex rk hn hx hk (keyOf_isKey ri ek) (by omega) ((if_pos hk).symm.trans e) h
      · exact nn ((if_neg hk).symm.trans e)
  | _ => exact nn e

theorem clampI_le (i : Int) (n : Nat) : clampI i n ≤ n := by unfold clampI; split <;> omega

theorem pick_slice (vs : List Value) (a b : Nat) : ((List.range (b - a)).map (a + ·)).filterMap (vs.toArray[·]?) = (vs.drop a).take (b - a) := pick_run vs.toArray a (b - a)

theorem clamp_neg {i : Int} {n : Nat} (h : i < 0) : ((clampI i n : Nat) : Int) = max (i + n) 0 := by
  unfold clampI; rw [if_pos h]; exact Int.toNat_of_nonneg (Int.le_max_right _ _)
theorem clamp_pos {i : Int} {n : Nat} (h : ¬ i < 0) : ((clampI i n : Nat) : Int) = min i n := by
  unfold clampI; rw [if_neg h]; omega
theorem clip_clamp (i : Int) (n : Nat) : (if i < 0 then max (i + (n : Int)) 0 else min i n) = ((clampI i n : Nat) : Int) := by
  by_cases h : i < 0
  · rw [if_pos h, clamp_neg h]
  · rw [if_neg h, clamp_pos h]
theorem clip_clamp2 (i : Int) (n : Nat) : max 0 (min (if i < 0 then i + (n : Int) else i) n) = ((clampI i n : Nat) : Int) := by
  by_cases h : i < 0
  · rw [if_pos h, clamp_neg h, Int.min_eq_left (by omega), Int.max_comm]
  · rw [if_neg h, clamp_pos h, Int.max_eq_right (by omega)]
theorem bounds_clamp (lo hi : Option Int) (n : Nat) : sliceBounds lo hi none n =
    ((loI lo n : Int), (hiI hi n : Int), 1) := by
  cases lo <;> cases hi <;> (refine Prod.ext ?_ (Prod.ext ?_ ?_) <;> first | rfl | exact clip_clamp2 _ _)
theorem adjust_clamp (lo hi : Option Int) (n : Nat) : Builtin.Slice.sliceAdjust lo hi 1 (n : Int) =
    ((loI lo n : Int), (hiI hi n : Int)) := by
  cases lo <;> cases hi <;> (refine Prod.ext ?_ ?_ <;> first | rfl | exact clip_clamp _ _)
theorem places_clamp (a b : Nat) : Builtin.Slice.slicePlaces (a : Int) (b : Int) 1 = b - a := by
  show (if (a : Int) < b then ((b : Int) - a - 1) / 1 + 1 else 0).toNat = b - a
  rw [Int.ediv_one]
  split <;> omega
theorem slicePick_eq (vs : List Value) (lo hi : Option Int) : slicePick vs.toArray lo hi none =
    ((vs.drop (loI lo vs.length)).take ((hiI hi vs.length) - (loI lo vs.length))).toArray := by
  unfold slicePick
  rw [List.size_toArray, bounds_clamp]
  simp only [sliceRange_one, pick_slice]

theorem slicePart_at {v : Value} {k : Option Int} {Q : Option Int → Shared → Prop} (p : IsPart v k) (h : Q k s) : wpAny (model prog w) A (Builtin.Slice.slicePartIndex v) Q E s := by
  cases p with
  | none => exact PyProof.Rows.slicePart_none h
  | int i t => exact PyProof.Rows.slicePart_int h

theorem slice_tup {t sl : Addr} {vs : List Value} {n : Nat} {vl vu : Value} {lo hi : Option Int} {Q : Value → Shared → Prop} (ht : s.heap.get? t = some (tupO vs n)) (hsl : s.heap.IsSliceOf sl vl vu .none)
    (pl : IsPart vl lo) (pu : IsPart vu hi) (hsz : vs.length ≤ 1000)
    (hwhole : (vs.drop (loI lo vs.length)).take ((hiI hi vs.length) - (loI lo vs.length)) = vs → Q (.ref t) s)
    (h : Q (.ref s.heap.objs.size) { s with heap := s.heap.push (tupO ((vs.drop (loI lo vs.length)).take ((hiI hi vs.length) - (loI lo vs.length))) 0) }) :
    wpAny (model prog w) A (getItem (.ref t) (.ref sl)) Q E s := by
  have ht' : PyProof.Rows.IsTup s.heap t vs.toArray := ⟨_, ht, rfl, n, rfl⟩
  obtain ⟨os, hos, hcs, hds⟩ := id hsl
  have hTs : s.TypeIs (.ref sl) "slice" := ⟨os, hos, hcs⟩
  generalize ha : (loI lo vs.length) = a at *
  generalize hb : (hiI hi vs.length) = b at *
  have hbn : b ≤ vs.length := by
    subst hb
    cases hi with
    | none => exact Nat.le_refl _
    | some i => exact clampI_le i vs.length
  unfold getItem
  try with_reducible refine wpAny_holding ?_
  refine wpAny_bind (wpAny_sequenceKey ht'.typeIs (by decide) ?_)
  refine wpAny_bind (wpAny_callSpecial?_slot (name := Str.ofString "__getitem__") ht'.typeIs PySem.F.slot_tuple_getitem
    (wpAny_call_entry PySem.F.slot_tuple_getitem ht'.typeIs PySem.F.entry_tuple_getitem ?_ (PySem.F.args_tuple_getitem_2 _ _)))
  show wpAny _ _ (Builtin.Tuple.tupleItemsOf (.ref t) >>= _) _ _ s
  refine wpAny_bind (PyProof.Rows.tupleItemsOf_ ht' ?_)
  refine wpAny_bind (wpAny_typeOf hTs ?_)
  rw [if_pos (by decide)]
  refine wpAny_bind ?_
  unfold Builtin.Slice.sliceApplied Builtin.Slice.sliceFields
  refine wpAny_bind (wpAny_bind (wpAny_field hos hds (x := vl) rfl (wpAny_bind (wpAny_field hos hds (x := vu) rfl (wpAny_bind (wpAny_field hos hds (x := .none) rfl (wpAny_pure ?_)))))))
  refine wpAny_bind (PyProof.Rows.slicePart_none ?_)
  show wpAny _ _ (if ((1 : Int) == 0) = true then _ else _) _ _ s
  rw [if_neg (by decide)]
  refine wpAny_bind (slicePart_at pl (wpAny_bind (slicePart_at pu (wpAny_bind (wpAny_pure ?_)))))
  show wpAny _ _ (match Builtin.Slice.sliceAdjust lo hi 1 (vs.length : Int) with | (lo, hi) => pure (lo, (1 : Int), Builtin.Slice.slicePlaces lo hi 1)) _ _ s
  rw [adjust_clamp, ha, hb]
  show wpAny _ _ (pure ((a : Int), (1 : Int), Builtin.Slice.slicePlaces (a : Int) (b : Int) 1)) _ _ s
  rw [places_clamp]
  refine wpAny_pure ?_
  show wpAny _ _ (if ((a : Int) == 0 && (1 : Int) == 1 && (b - a) == vs.toArray.size) = true then _ else _) _ _ s
  have e1 : ((List.range (b - a)).filterMap fun (k : Nat) => vs.toArray[((a : Int) + (k : Int) * 1).toNat]?) = (vs.drop a).take (b - a) := by
    rw [← pick_slice, List.filterMap_map]
    congr 1
    funext k
    show vs.toArray[((a : Int) + (k : Int) * 1).toNat]? = vs.toArray[a + k]?
    congr 1
    omega
  split
  · rename_i hc
    simp only [Bool.and_eq_true, beq_iff_eq, List.size_toArray] at hc
    have ha0 : a = 0 := by omega
    subst ha0
    refine wpAny_bind ?_
    unfold Builtin.Tuple.tupleIsExact
    refine wpAny_bind (wpAny_typeOf ht'.typeIs (wpAny_pure ?_))
    rw [if_pos (by decide)]
    refine wpAny_bind (wpAny_rule ?_)
    have hw : (vs.drop 0).take (b - 0) = vs := by rw [List.drop_zero, List.take_of_length_le]; omega
    first
      | exact wpAny_pure ⟨_, rfl, wpAny_pure (hwhole hw)⟩
      | exact wpAny_bind (wpAny_pure (wpAny_pure ⟨_, rfl, wpAny_pure (hwhole hw)⟩))
  · rw [e1]
    have hdrop : sizeOk (.seq ((vs.drop a).take (b - a)).toArray) := by
      show ((vs.drop a).take (b - a)).toArray.size ≤ sizeLine
      rw [List.size_toArray, List.length_take, List.length_drop]
      have := lines1000
      omega
    first
      | exact wpAny_bind (m := Builtin.Tuple.tupleExact _) (wpAny_newObj_type (wpAny_pure ⟨_, rfl, wpAny_pure h⟩) hdrop)
      | exact wpAny_bind (m := Builtin.Tuple.tupleExact _) (wpAny_newObj_type (wpAny_bind (wpAny_pure (wpAny_pure ⟨_, rfl, wpAny_pure h⟩))) hdrop)
      | exact wpAny_bind (wpAny_bind (m := Builtin.Tuple.tupleExact _) (wpAny_newObj_type (wpAny_pure (wpAny_pure ⟨_, rfl, wpAny_pure h⟩)) hdrop))
      | exact wpAny_bind (wpAny_bind (m := Builtin.Tuple.tupleExact _) (wpAny_newObj_type (wpAny_pure ⟨_, rfl, wpAny_pure h⟩) hdrop))

theorem slice_at {a d : D} {v vl vu : Value} {sl : Addr} {lo hi : Option Int} {Q : Value → Shared → Prop} (hs : Seen Φ s.heap) (hl : Low s.heap) (hsl : s.heap.IsSliceOf sl vl vu .none)
    (pl : IsPart vl lo) (pu : IsPart vu hi) (ra : AtH w Φ s.heap v a) (e : sliceD a lo hi = some d) (htup : ∀ l, a = .tup l → Rep w Φ v a) (h : Yields w Φ s d Q) :
    wpAny (model prog w) A (getItem v (.ref sl)) Q E s := by
  cases a with
  | lst l =>
    by_cases hlen : l.length ≤ 1000
    case neg => exact nn ((if_neg hlen).symm.trans e)
    obtain rfl := Option.some.inj ((if_pos hlen).symm.trans e)
    obtain ⟨p, vs, n, rfl, ep, _, rl⟩ := ra.lst_inv
    refine wpAny_getItem_list_slice (isList_of ep) hsl pl pu .none (fun x => nomatch x) ?_ (by simp only [List.size_toArray, rl.length]; exact Nat.le_trans hlen lines1000)
    rw [slicePick_eq, rl.length]
    exact h.new hs hl (o := lstO _ 0) (.lst ((rl.drop _).take _)) s.toks
  | tup l =>
    by_cases hlen : l.length ≤ 1000
    case neg => exact nn ((if_neg hlen).symm.trans e)
    obtain rfl := Option.some.inj ((if_pos hlen).symm.trans e)
    obtain ⟨p, vs, n, rfl, ep, hp, rl⟩ := ra.tup_inv
    have hrl := rl.length
    have r2 : RepL w Φ ((vs.drop (loI lo vs.length)).take ((hiI hi vs.length) - (loI lo vs.length))) (sliceL l lo hi) := by
      unfold sliceL
      rw [rl.length]
      exact (rl.drop _).take _
    refine slice_tup ep hsl pl pu (by rw [hrl]; exact hlen) (fun hw => ?_) ?_
    · rw [hw] at r2
      have := rl.inj r2 rfl
      rw [← this] at h
      exact h.now hs (htup l rfl) s.toks
    · exact h.new hs hl (o := tupO _ 0) (.tup r2) s.toks
  | _ => exact nn e
end
end Mine

-- SnF
namespace Mine
open PySem PySem.SeqAt PySem.MeetsSeq
set_option linter.unusedSectionVars false
set_option linter.unusedSimpArgs false
set_option linter.unusedVariables false

section
variable {prog : Program} {w : World} {A : Around} {E : Value → Shared → Prop} {s : Shared} {Φ : PH}

theorem Seen.none_of {h : Heap} (hs : Seen Φ h) {a : Addr} (ha : h.get? a = none) : Φ a = none := by
  cases e : Φ a with
  | none => rfl
  | some o => rw [hs _ _ e] at ha; cases ha
theorem Chg.newAt {X : Addr → Prop} {h h' : Heap} {a : Addr} {o : Obj} (hs : Seen Φ h) (hk : ∀ b o, h.get? b = some o → h'.get? b = some o) (ha : h.get? a = none) : Chg X Φ (put Φ a o) h h' :=
  ⟨fun b o _ e => hk b o e, put_mono (hs.none_of ha), fun b o' _ e => put_ne _ _ (fun q => by rw [q, ha] at e; cases e)⟩
theorem Seen.newAt {h h' : Heap} {a : Addr} {o : Obj} (hs : Seen Φ h) (hk : ∀ b o, h.get? b = some o → h'.get? b = some o) (ho : h'.get? a = some o) : Seen (put Φ a o) h' := fun b o' e => by
  by_cases hb : b = a
  · subst hb; rw [put_self] at e; cases e; exact ho
  · rw [put_ne _ _ hb] at e; exact hk _ _ (hs _ _ e)
theorem Yields.newAt {d : D} {Q : Value → Shared → Prop} (y : Yields w Φ s d Q) (hs : Seen Φ s.heap) {a : Addr} {o : Obj} {h' : Heap} (hk : ∀ b o, s.heap.get? b = some o → h'.get? b = some o) (ho : h'.get? a = some o)
    (ha : s.heap.get? a = none) (hl : a ≠ sysModules) (c : Cont w Φ o d) (tk : Nat) : Q (.ref a) { s with heap := h', toks := tk } :=
  y _ _ tk _ (Chg.newAt hs hk ha) (hs.newAt hk ho) (.obj (put_self _ _ _) hl (c.mono (put_mono (hs.none_of ha))))

theorem ints_are : ∀ {l : List D} {ns : List Int} {vs : List Value}, intsOf l = some ns → RepL w Φ vs l → PyProof.Rows.IntsAre vs ns
  | [], ns, vs, e, r => by cases r; simp only [intsOf, Option.some.injEq] at e; subst e; exact .nil
  | d :: ds, ns, vs, e, r => by
    cases r with
    | cons r1 rs =>
      cases d <;> simp only [intsOf, reduceCtorEq, Option.map_eq_some_iff] at e
      obtain ⟨ms, hm, rfl⟩ := e
      obtain ⟨t, rfl⟩ := r1.int_inv
      exact .cons _ _ (ints_are hm rs)
theorem rep_ints : ∀ {ns : List Int} {vs : List Value}, PyProof.Rows.IntsAre vs ns → RepL w Φ vs (ns.map D.int)
  | _, _, .nil => .nil
  | _, _, .cons n t r => .cons (.int n t) (rep_ints r)

theorem foldl_max (l : List Int) : ∀ m : Int, m ≤ l.foldl (fun m y => if m < y then y else m) m ∧ (∀ a ∈ l, a ≤ l.foldl (fun m y => if m < y then y else m) m) ∧
    (l.foldl (fun m y => if m < y then y else m) m = m ∨ l.foldl (fun m y => if m < y then y else m) m ∈ l) := by
  induction l with
  | nil => intro m; exact ⟨Int.le_refl _, fun a h => by simp at h, .inl rfl⟩
  | cons x r ih =>
    intro m
    simp only [List.foldl_cons]
    have hm : m ≤ (if m < x then x else m) ∧ x ≤ (if m < x then x else m) ∧ ((if m < x then x else m) = m ∨ (if m < x then x else m) = x) := by split <;> omega
    generalize (if m < x then x else m) = m' at hm ⊢
    obtain ⟨h1, h2, h3⟩ := ih m'
    refine ⟨by omega, fun a ha => ?_, ?_⟩
    · rcases List.mem_cons.mp ha with rfl | ha
      · omega
      · exact h2 a ha
    · rcases h3 with h3 | h3
      · rw [h3]
        rcases hm.2.2 with e | e
        · exact .inl e
        · exact .inr (e ▸ List.mem_cons_self)
      · exact .inr (List.mem_cons_of_mem _ h3)
theorem maxInt_is {ns : List Int} {m M : Int} (e : maxInt ns = some m) (h1 : M ∈ ns) (h2 : ∀ a, a ∈ ns → a ≤ M) : m = M := by
  cases ns with
  | nil => simp at h1
  | cons x r =>
    simp only [maxInt, Option.some.injEq] at e
    obtain ⟨a1, a2, a3⟩ := foldl_max r x
    rw [e] at a1 a2 a3
    have hm : m ≤ M := by
      rcases a3 with a3 | a3
      · rw [a3]; exact h2 _ List.mem_cons_self
      · exact h2 _ (List.mem_cons_of_mem _ a3)
    have hM : M ≤ m := by
      rcases List.mem_cons.mp h1 with rfl | h1
      · exact a1
      · exact a2 _ h1
    omega
theorem insertI_perm (x : Int) : ∀ l : List Int, (insertI x l).Perm (x :: l)
  | [] => .refl _
  | y :: r => by
    unfold insertI
    split
    · exact .refl _
    · exact ((insertI_perm x r).cons y).trans (.swap x y r)
theorem insertI_mem {x a : Int} {l : List Int} (h : a ∈ insertI x l) : a = x ∨ a ∈ l := by
  have := (insertI_perm x l).mem_iff.mp h
  simpa using this
theorem insertI_sorted (x : Int) : ∀ l : List Int, l.Pairwise (· ≤ ·) → (insertI x l).Pairwise (· ≤ ·)
  | [], _ => List.pairwise_singleton _ _
  | y :: r, h => by
    obtain ⟨h1, h2⟩ := List.pairwise_cons.mp h
    unfold insertI
    split
    · rename_i hxy
      refine List.pairwise_cons.mpr ⟨fun a ha => ?_, h⟩
      rcases List.mem_cons.mp ha with rfl | ha
      · exact hxy
      · have := h1 a ha; omega
    · refine List.pairwise_cons.mpr ⟨fun a ha => ?_, insertI_sorted x r h2⟩
      rcases insertI_mem ha with rfl | ha
      · omega
      · exact h1 a ha
theorem sortI_perm : ∀ l : List Int, (sortI l).Perm l
  | [] => .refl _
  | x :: r => (insertI_perm x (sortI r)).trans ((sortI_perm r).cons x)
theorem sortI_sorted : ∀ l : List Int, (sortI l).Pairwise (· ≤ ·)
  | [] => .nil
  | x :: r => insertI_sorted x _ (sortI_sorted r)
theorem sortI_unique {l l' : List Int} (hp : l'.Perm l) (hs : l'.Pairwise (· ≤ ·)) : sortI l = l' :=
  List.Perm.eq_of_pairwise (le := (· ≤ ·)) (fun a b _ _ h1 h2 => Int.le_antisymm h1 h2) (sortI_sorted l) hs ((sortI_perm l).trans hp.symm)

theorem intKeys_are : ∀ {kvs : List (Key × D)} {ns : List Int} {l : List (Int × Value)}, intKeys kvs = some ns → KV w Φ Key.i l kvs → l.map (·.1) = ns
  | [], ns, l, e, r => by cases r; simp only [intKeys, Option.some.injEq] at e; subst e; rfl
  | (k, d) :: kvs, ns, l, e, r => by
    cases r with
    | cons r1 rs =>
      simp only [intKeys, Option.map_eq_some_iff] at e
      obtain ⟨ms, hm, rfl⟩ := e
      rw [List.map_cons, intKeys_are hm rs]
theorem intKeys_kind : ∀ {kvs : List (Key × D)} {ns : List Int}, intKeys kvs = some ns → ∀ kv ∈ kvs, ∃ k, kv.1 = Key.i k
  | [], _, _ => fun _ h => by simp at h
  | (k, d) :: kvs, ns, e => by
    cases k <;> simp only [intKeys, reduceCtorEq, Option.map_eq_some_iff] at e
    obtain ⟨ms, hm, rfl⟩ := e
    intro kv h
    rcases List.mem_cons.mp h with rfl | h
    · exact ⟨_, rfl⟩
    · exact intKeys_kind hm kv h

theorem dictLow {d : Addr} (h : d ≠ sysModules) : (d == sysModules) = false := by simpa using h

theorem sorted_at {d : Addr} {es : List DictEntry} {n : Nat} {kvs : List (Key × D)} {ns : List Int} {Q : Value → Shared → Prop} (hs : Seen Φ s.heap) (hl : Low s.heap) (hh : A.handled = none)
    (e : s.heap.get? d = some (dctO es n)) (r : RepK w Φ es kvs) (hn : (kvs.map (·.1)).Nodup) (hd : d ≠ sysModules) (hk : intKeys kvs = some ns) (h64 : kvs.length < 64) (h : Yields w Φ s (.lst ((sortI ns).map .int)) Q) :
    wpAny (model prog w) A (call (.builtin "sorted") [.ref d]) Q E s := by
  obtain ⟨l, a1, a2⟩ := (byInt (prog := prog)).dictOf e r hn (intKeys_kind hk)
  obtain ⟨ep, a3⟩ := a2.dictAt
  have hll : l.length = kvs.length := by
    clear a2 a3 hk h64 r e hn
    induction a1 with
    | nil => rfl
    | cons _ _ ih => simp [ih]
  refine Calls.call_function_entry PyProof.Rows.kind_sorted PyProof.Rows.plain_sorted PyProof.Rows.entry_sorted (PyProof.Rows.args_sorted1 _) ?_
  unfold Builtin.«sorted»
  refine wpAny_bind (m := checkCount "sorted" 1 1 _) (wpAny_pure ?_)
  refine wpAny_bind (W.kdu_collect (A := A.in1) (W.kdl_dict (knd := intKind prog w) (kvs := l) (ep := ep) (dictLow hd)) hh a3 (by rw [hll]; have := lines1000; omega) fun h' tk acc hk' hacc => ?_)
  have hlen : acc.toList.length = l.length := by rw [Array.length_toList]; exact hacc.1
  have hI : PyProof.Rows.IntsAre acc.toList ns := by
    have hI' : ∀ (j : Nat) (v : Value), acc.toList[j]? = some v → ∃ k x, l[j]? = some (k, x) ∧ (intKind prog w).is k v = true := fun j v e => hacc.2 j v (by rw [← Array.getElem?_toList]; exact e)
    rw [← intKeys_are hk a1]
    clear hacc hk' a1 a2 a3 hk hll h
    generalize acc.toList = vs at hlen hI'
    induction l generalizing vs with
    | nil => cases vs with
      | nil => exact .nil
      | cons => simp at hlen
    | cons kx l ih =>
      cases vs with
      | nil => simp at hlen
      | cons v vs =>
        obtain ⟨k, x, h1, h2⟩ := hI' 0 v rfl
        simp at h1
        obtain ⟨t, rfl⟩ := isInt_shape h2
        rw [List.map_cons, h1]
        exact .cons _ _ (ih vs (by simpa using hlen) fun j v e => by simpa using hI' (j + 1) v (by simpa using e))
  refine wpAny_bind (wpAny_newList ?_ (by rw [hlen, hll]; have := lines1000; omega))
  have ho : (h'.push (PyProof.Rows.seqObj "list" acc.toList.toArray 0)).get? h'.objs.size = some (PyProof.Rows.seqObj "list" acc.toList.toArray 0) := Heap.get?_push_size _ rfl
  refine wpAny_bind (wpAny_holding (wpAny_call_entry PyProof.Rows.slot_list_sort ⟨_, ho, rfl⟩ PyProof.Rows.entry_list_sort (PyProof.Rows.list_sort_tree ho hI (by rw [hlen, hll]; exact h64) fun out ns' b1 b2 b3 => ⟨_, rfl, ?_⟩) (PyProof.Rows.args_list_sort _)))
  refine wpAny_pure ⟨_, rfl, ?_⟩
  have hfresh : s.heap.get? h'.objs.size = none := by
    cases e : s.heap.get? h'.objs.size with
    | none => rfl
    | some o => have := hk' _ _ e; rw [fresh_none] at this; cases this
  have hsz : h'.objs.size ≠ sysModules := Nat.ne_of_gt (hl.keep hk').lt
  rw [sortI_unique b2 b3] at h
  have hne : h'.objs.size ≠ h'.objs.size + 1 := Nat.ne_of_lt (Nat.lt_succ_self _)
  have k1 : ∀ b o, b ≠ h'.objs.size → h'.get? b = some o → (PyProof.Rows.sortedHeap (h'.push (PyProof.Rows.seqObj "list" acc.toList.toArray 0)) h'.objs.size acc.toList out).get? b = some o := fun b o hb e => by
    unfold PyProof.Rows.sortedHeap
    rw [Heap.get?_update_other _ _ (Ne.symm hb)]
    refine Heap.get?_push_of_some _ (Heap.get?_push_of_some _ ?_)
    rw [Heap.get?_update_other _ _ (Ne.symm hb)]
    exact Heap.get?_push_of_some _ e
  obtain ⟨m, k2⟩ : ∃ m, (PyProof.Rows.sortedHeap (h'.push (PyProof.Rows.seqObj "list" acc.toList.toArray 0)) h'.objs.size acc.toList out).get? h'.objs.size = some (lstO out.toList m) := by
    unfold PyProof.Rows.sortedHeap
    have q1 := Heap.get?_update_self (Obj.mapSeq fun _ => (#[] : Array Value)) ho rfl
    have q2 := Heap.get?_push_of_some (PyProof.Rows.seqObj "list" #[] 0) (Heap.get?_push_of_some (PyProof.Rows.seqObj "tuple" acc.toList.toArray 0) q1)
    have q3 := Heap.get?_update_self (Obj.mapSeq fun _ => out) q2 rfl
    exact ⟨_, q3⟩
  exact h.newAt hs (fun b o e => k1 b o (fun q => by rw [q, hfresh] at e; cases e) (hk' b o e)) k2 hfresh hsz (.lst (rep_ints b1)) tk
end
end Mine

-- SnG
namespace Mine
open PySem PySem.SeqAt PySem.MeetsSeq
set_option linter.unusedSectionVars false
set_option linter.unusedSimpArgs false
set_option linter.unusedVariables false

section
variable {prog : Program} {w : World} {A : Around} {E : Value → Shared → Prop} {s : Shared} {Φ : PH}

theorem repL_nil : RepL w Φ [] [] := .nil

theorem max_at {l : Addr} {vs : List Value} {n : Nat} {ds : List D} {ns : List Int} {m : Int} {Q : Value → Shared → Prop} (hs : Seen Φ s.heap) (hh : A.handled = none) (ho : s.heap.get? l = some (lstO vs n))
    (r : RepL w Φ vs ds) (hi : intsOf ds = some ns) (hm : maxInt ns = some m) (h : Yields w Φ s (.int m) Q) : wpAny (model prog w) A (call (.builtin "max") [.ref l]) Q E s := by
  have hI := ints_are hi r
  obtain ⟨xs, e⟩ := hI.allInts.items
  have hns : ns = xs.toList.map (·.1) := by
    rw [← hI.numsOf, ← nums_intItems, ← e]
  have hne : 0 < ns.length := by cases ns with
    | nil => simp [maxInt] at hm
    | cons => simp
  have hsz : 0 < xs.size := by
    have h3 := hne; rw [hns, List.length_map, Array.length_toList] at h3; exact h3
  have hl : s.heap.IsList l (intItems xs) := by rw [← e]; exact isList_of ho
  refine max_intList hh hl hsz fun v h' tk hv hk => ?_
  obtain ⟨t, rfl⟩ := intItems_at hv
  obtain ⟨h1, h2⟩ := argBest_gt (numAt xs) (xs.size - 1)
  have hM : m = numAt xs (argBest (fun i j => decide (numAt xs i > numAt xs j)) (xs.size - 1)) := by
    refine maxInt_is hm ?_ fun a ha => ?_
    · rw [hns, numAt_eq]; exact PySem.getD_mem (by rw [List.length_map, Array.length_toList]; omega)
    · rw [hns] at ha
      obtain ⟨j, hj, rfl⟩ := PySem.mem_getD ha
      rw [List.length_map, Array.length_toList] at hj
      rw [← numAt_eq]; exact h2 j (by omega)
  rw [hM] at h
  exact h _ h' tk Φ ⟨fun a o _ e => hk a o e, fun _ _ e => e, fun _ _ _ _ => rfl⟩ (fun a o e => hk a o (hs a o e)) (.int _ t)

theorem str_small {n : Int} (h : 0 ≤ n ∧ n < 10000) : n.natAbs.log2 < 1920 := by
  by_cases h0 : n.natAbs = 0
  · rw [h0]; decide
  · rw [Nat.log2_lt h0]
    have h1 : n.natAbs < 2 ^ 14 := by have : (2 : Nat) ^ 14 = 16384 := by decide
                                      omega
    exact Nat.lt_of_lt_of_le h1 (Nat.pow_le_pow_right (by decide) (by decide))

theorem len_at {a d : D} {v : Value} {Q : Value → Shared → Prop} (hs : Seen Φ s.heap) (ra : AtH w Φ s.heap v a) (e : (lenD a).map .int = some d) (h : Yields w Φ s d Q) : wpAny (model prog w) A (call (.builtin "len") [v]) Q E s := by
  obtain ⟨n, hn, rfl⟩ := msome e
  cases a with
  | lst l =>
    by_cases hq : l.length ≤ 1000
    · obtain rfl := Option.some.inj ((if_pos hq).symm.trans hn)
      obtain ⟨p, vs, k, rfl, ep, _, rl⟩ := ra.lst_inv
      refine Calls.call_len_list (isList_of ep) (by simp only [List.size_toArray, rl.length]; omega) ?_
      simp only [List.size_toArray, rl.length]
      exact h.now hs (.int _ _) _
    · exact nn ((if_neg hq).symm.trans hn)
  | tup l =>
    by_cases hq : l.length ≤ 1000
    · obtain rfl := Option.some.inj ((if_pos hq).symm.trans hn)
      obtain ⟨p, vs, k, rfl, ep, _, rl⟩ := ra.tup_inv
      refine P.len_tuple ep (by simp only [List.size_toArray, rl.length]; omega) ?_
      simp only [List.size_toArray, rl.length]
      exact h.now hs (.int _ _) _
    · exact nn ((if_neg hq).symm.trans hn)
  | _ => exact nn hn

/-- a built-in of the interpreter's, called upon one value -/
theorem builtin_at {f : Str} {a d : D} {v fv : Value} {Q : Value → Shared → Prop} (hs : Seen Φ s.heap) (hl : Low s.heap) (hh : A.handled = none) (hu : A.units + 20 < cLine) (ra : AtH w Φ s.heap v a) (e : builtinD f [a] = some d)
    (hf : bootBuiltins f = some fv) (h : Yields w Φ s d Q) : wpAny (model prog w) A (call fv [v]) Q E s := by
  by_cases h1 : f = Str.ofString "len"
  · subst h1
    obtain rfl : fv = .builtin "len" := Option.some.inj (hf.symm.trans boot_len)
    exact len_at hs ra e h
  have e : bi2 f a = some d := (if_neg h1).symm.trans e
  by_cases h2 : f = Str.ofString "range"
  · subst h2
    obtain rfl : fv = .type "range" := Option.some.inj (hf.symm.trans PyProof.Rows.boot_range)
    cases a with
    | int n =>
      obtain rfl := Option.some.inj e
      obtain ⟨t, rfl⟩ := ra.int_inv
      exact call_range_1 (h.new hs hl (o := rngO _ _ _ _) .rng _)
    | _ => exact nn e
  have e : bi3 f a = some d := (if_neg h2).symm.trans e
  by_cases h3 : f = Str.ofString "max"
  · subst h3
    obtain rfl : fv = .builtin "max" := Option.some.inj (hf.symm.trans PyProof.Rows.boot_max)
    cases a with
    | lst l =>
      by_cases hq : l.length ≤ 1000
      · obtain ⟨ns, hns, e⟩ := bsome ((if_pos hq).symm.trans e)
        obtain ⟨m, hm, rfl⟩ := msome e
        obtain ⟨p, vs, k, rfl, ep, _, rl⟩ := ra.lst_inv
        exact max_at hs hh ep rl hns hm h
      · exact nn ((if_neg hq).symm.trans e)
    | _ => exact nn e
  have e : bi4 f a = some d := (if_neg h3).symm.trans e
  by_cases h4 : f = Str.ofString "sorted"
  · subst h4
    obtain rfl : fv = .builtin "sorted" := Option.some.inj (hf.symm.trans PyProof.Rows.boot_sorted)
    cases a with
    | dct kvs =>
      by_cases h64 : kvs.length < 64
      · obtain ⟨ns, hns, rfl⟩ := msome ((if_pos h64).symm.trans e)
        obtain ⟨p, es, n, rfl, ep, hp, rk, hn⟩ := ra.dct_inv
        exact sorted_at hs hl hh ep rk hn hp hns h64 h
      · exact nn ((if_neg h64).symm.trans e)
    | _ => exact nn e
  have e : bi5 f a = some d := (if_neg h4).symm.trans e
  by_cases h5 : f = Str.ofString "str"
  · subst h5
    obtain rfl : fv = .type "str" := Option.some.inj (hf.symm.trans PyProof.Rows.boot_str)
    cases a with
    | int n =>
      by_cases hn : 0 ≤ n ∧ n < 10000
      · obtain rfl := Option.some.inj ((if_pos hn).symm.trans e)
        obtain ⟨t, rfl⟩ := ra.int_inv
        exact P.str_of_int (str_small hn) (h.now hs (.str _ _) _)
      · exact nn ((if_neg hn).symm.trans e)
    | _ => exact nn e
  have e : bi6 f a = some d := (if_neg h5).symm.trans e
  by_cases h6 : f = Str.ofString "list"
  · subst h6
    obtain rfl : fv = .type "list" := Option.some.inj (hf.symm.trans PyProof.Rows.boot_list)
    cases a with
    | tup l =>
      by_cases hlen : l.length ≤ 1000
      · obtain rfl := Option.some.inj ((if_pos hlen).symm.trans e)
        obtain ⟨p, vs, k, rfl, ep, _, rl⟩ := ra.tup_inv
        refine call_list_seq p (.inr rfl) ep rfl rfl (fun h' c' hk hD => ?_) (by simp only [List.size_toArray, rl.length]; have := lines1000; omega)
        exact h.newAt hs hk (o := lstO vs c') hD (fresh_none _) (Nat.ne_of_gt hl.lt) (.lst rl) s.toks
      · exact nn ((if_neg hlen).symm.trans e)
    | _ => exact nn e
  exact nn ((if_neg h6).symm.trans e)

theorem len_lines {l : List D} {vs : List Value} (r : RepL w Φ vs l) (h : l.length ≤ 1000) : vs.toArray.size ≤ sizeLine := by
  simp only [List.size_toArray, r.length]; exact Nat.le_trans h lines1000

theorem count_at {l : List D} {x d : D} {p : Addr} {us : List Value} {k : Nat} {v : Value} {Q : Value → Shared → Prop} (hs : Seen Φ s.heap) (hu : A.units + 20 < cLine) (ep : s.heap.get? p = some (lstO us k)) (rl : RepL w Φ us l) (r1 : Rep w Φ v x)
    (e : (countD l x).map .int = some d) (h : Yields w Φ s d Q) : wpAny (model prog w) A (call (.builtin "list.count") [.ref p, v]) Q E s := by
  have hf : eqFuel = 12 := rfl
  obtain ⟨c, e9, rfl⟩ := msome e
  obtain ⟨bs, hb, rfl⟩ := msome e9
  refine call_meets PySem.F.slot_list_count ⟨_, ep, rfl⟩ PySem.F.entry_list_count (PySem.F.args_list_count_2 _ _) (list_countAt p us.toArray k none #[] _ (isOne w Φ x)) ⟨ep, one_at hs hb rl (r1.at hs) (by simp only [Around.in1_units]; omega), ?_⟩
  have : bs.countP id = us.countP (isOne w Φ x) := by rw [(eqEach_is hb rl).1, List.countP_map]; rfl
  rw [this] at h
  exact h.now hs (.int _ _) _
theorem index_at {l : List D} {x d : D} {p : Addr} {us : List Value} {k : Nat} {v : Value} {Q : Value → Shared → Prop} (hs : Seen Φ s.heap) (hu : A.units + 20 < cLine) (ep : s.heap.get? p = some (lstO us k)) (rl : RepL w Φ us l) (r1 : Rep w Φ v x) (hlen : l.length ≤ 1000)
    (e : (indexD l x).map .int = some d) (h : Yields w Φ s d Q) : wpAny (model prog w) A (call (.builtin "list.index") [.ref p, v]) Q E s := by
  have hf : eqFuel = 12 := rfl
  obtain ⟨jj, e9, rfl⟩ := msome e
  obtain ⟨bs, hb, hj⟩ := bsome e9
  cases hjj : List.findIdx? id bs with
  | none => rw [hjj] at hj; exact nn hj
  | some j =>
  rw [hjj] at hj
  obtain rfl : (j : Int) = jj := Option.some.inj hj
  rw [(eqEach_is hb rl).1] at hjj
  obtain ⟨h1, h2, h3⟩ := List.findIdx?_eq_some_iff_getElem.mp hjj
  simp only [List.length_map] at h1
  have hj' : j < us.toArray.size := by simpa using h1
  exact call_meets PySem.F.slot_list_index ⟨_, ep, rfl⟩ PySem.F.entry_list_index (PySem.F.args_list_index_2 _ _) (list_indexAt p us.toArray k none #[] _ (isOne w Φ x) j hj'
    (by have := rl.length; omega) (by simpa using h2) (fun m hm hmj => by simpa using h3 m hmj)) ⟨ep, one_at hs hb rl (r1.at hs) (by simp only [Around.in1_units]; omega), h.now hs (.int _ _) _⟩
theorem get_at {kvs : List (Key × D)} {x : Int} {d dd : D} {p : Addr} {es : List DictEntry} {n : Nat} {t : Tok} {u : Value} {Q : Value → Shared → Prop} (hs : Seen Φ s.heap) (ep : s.heap.get? p = some (dctO es n)) (hp : p ≠ sysModules) (rk : RepK w Φ es kvs) (hn : (kvs.map (·.1)).Nodup) (hk : kindsOk (.i x) kvs = true) (r2 : Rep w Φ u dd)
    (e : (assocGet kvs (.i x)).getD dd = d) (h : Yields w Φ s d Q) : wpAny (model prog w) A (call (.builtin "dict.get") [.ref p, .int x t, u]) Q E s := by
  obtain ⟨l, a1, a2⟩ := (byInt (prog := prog)).dictOf ep rk hn (kinds_i hk)
  refine call_meetsIn PySem.F.slot_dict_get ⟨_, ep, rfl⟩ PySem.F.entry_dict_get (PySem.F.args_dict_get_3 _ _ _) (meets_dict_get_default (intKind prog w) p (((byInt (prog := prog) (w := w)).is Φ x _).mp ⟨t, rfl⟩) (dictLow hp) _) ⟨valueAt l, a2.mapOf, ?_⟩
  cases hg : assocGet kvs (.i x) with
  | none =>
    rw [hg] at e
    rw [(a1.get (byInt (prog := prog) (w := w)).inj x).2 hg]
    exact h.now hs (e ▸ r2) _
  | some dv =>
    rw [hg] at e
    obtain ⟨vv, hv, rv⟩ := (a1.get (byInt (prog := prog) (w := w)).inj x).1 dv hg
    rw [hv]
    exact h.now hs (e ▸ rv) _
/-- a list's methods are not called get, a dict's are -/
noncomputable def KindT (T : String) (m : Str) : Prop := (T = "list" ∧ m ≠ Str.ofString "get") ∨ (T = "dict" ∧ m = Str.ofString "get")
theorem KindT.unique {T T' : String} {m : Str} (a : KindT T m) (b : KindT T' m) : T = T' := by
  rcases a with ⟨rfl, h⟩ | ⟨rfl, h⟩ <;> rcases b with ⟨rfl, h'⟩ | ⟨rfl, h'⟩
  · rfl
  · exact absurd h' h
  · exact absurd h h'
  · rfl
/-- a method that changes nothing -/
theorem meth_at {m : Str} {a d : D} {v : Value} {ds : List D} {vs : List Value} {Q : Value → Shared → Prop} (hs : Seen Φ s.heap) (hu : A.units + 20 < cLine) (ra : AtH w Φ s.heap v a) (rs : RepL w Φ vs ds)
    (e : methD m a ds = some d) (h : Yields w Φ s d Q) :
    ∃ T id, KindT T m ∧ Slot T m id ∧ wpAny (model prog w) A (call (.builtin id) (v :: vs)) Q E s := by
  cases a with
  | lst l =>
    rcases ds with _ | ⟨x, _ | ⟨y, ds⟩⟩
    · exact nn e
    · obtain ⟨p, us, k, rfl, ep, _, rl⟩ := ra.lst_inv
      obtain ⟨u, rfl, r1⟩ := rs.of_one
      by_cases hlen : l.length ≤ 1000
      case neg => exact nn ((if_neg hlen).symm.trans e)
      have e := (if_pos hlen).symm.trans e
      by_cases hx : m = Str.ofString "count"
      · subst hx
        exact ⟨"list", "list.count", .inl ⟨rfl, by decide⟩, PySem.F.slot_list_count, count_at hs hu ep rl r1 e h⟩
      have e := (if_neg hx).symm.trans e
      by_cases hx : m = Str.ofString "index"
      · subst hx
        exact ⟨"list", "list.index", .inl ⟨rfl, by decide⟩, PySem.F.slot_list_index, index_at hs hu ep rl r1 hlen e h⟩
      exact nn ((if_neg hx).symm.trans e)
    · exact nn e
  | dct kvs =>
    rcases ds with _ | ⟨x, _ | ⟨y, _ | ⟨z, ds⟩⟩⟩
    · exact nn e
    · exact nn e
    · by_cases hx : m = Str.ofString "get"
      case neg => exact nn ((if_neg hx).symm.trans e)
      have e := (if_pos hx).symm.trans e
      subst hx
      obtain ⟨p, es, n, rfl, ep, hp, rk, hn⟩ := ra.dct_inv
      obtain ⟨u1, u2, rfl, r1, r2⟩ := rs.of_two
      cases x with
      | int i =>
        obtain ⟨t, rfl⟩ := r1.int_inv
        by_cases hk : kindsOk (.i i) kvs = true
        · exact ⟨"dict", "dict.get", .inr ⟨rfl, rfl⟩, PySem.F.slot_dict_get, get_at hs ep hp rk hn hk r2 (Option.some.inj ((if_pos hk).symm.trans e)) h⟩
        · exact nn ((if_neg hk).symm.trans e)
      | _ => exact nn e
    · exact nn e
  | _ => exact nn e
end
end Mine

-- SnH
namespace Mine
open PySem PySem.SeqAt PySem.MeetsSeq
set_option linter.unusedSectionVars false
set_option linter.unusedSimpArgs false
set_option linter.unusedVariables false

/-! ## iterators -/

section
variable {prog : Program} {w : World} {A : Around} {E : Value → Shared → Prop} {s : Shared} {Φ : PH}

noncomputable def KeyIt (h : Heap) (it d : Addr) (i n ep : Nat) : Prop := h.IsKeyIter it d i n ep

theorem dctIter {d : Addr} {es : List DictEntry} {ep : Nat} {Q : Value → Shared → Prop} (hd : d ≠ sysModules) (e : s.heap.get? d = some (dctO es ep))
    (hQ : Q (.ref s.heap.objs.size) { s with heap := s.heap.push { cls := .type "dict_keyiterator", data := .fields #[.ref d, .int 0 0, .int es.length 0, .int ep 0] } }) : wpAny (model prog w) A (pyIter (.ref d)) Q E s := by
  have hT : s.TypeIs (.ref d) "dict" := ⟨_, e, rfl⟩
  refine wpAny_pyIter_slot hT F.slot_dict_iter (wpAny_call_entry F.slot_dict_iter hT F.entry_dict_iter ?_ (F.args_dict_iter_1 _))
  unfold Builtin.«dict.__iter__» Builtin.Dict.dictSlotNone
  refine wpAny_bind (wpAny_bind (wpAny_notOrdered_dict hT (wpAny_pure ?_)))
  unfold Builtin.Dict.showsAll
  refine wpAny_bind (m := Builtin.Dict.addrOf _) (wpAny_pure ?_)
  refine wpAny_bind ?_
  rw [if_neg (by rw [dictLow hd]; exact Bool.false_ne_true)]
  refine wpAny_pure (wpAny_bind (wpAny_dictEntries e rfl (wpAny_bind (wpAny_dictEpoch e rfl ?_))))
  refine wpAny_bind (wpAny_newObj_type (wpAny_pure ⟨_, rfl, "dict_keyiterator", _, ⟨_, Heap.get?_push_size _ rfl, rfl⟩, F.slot_dict_keyiterator_next.lookup, ?_⟩))
  simpa [rawInt] using hQ

theorem own_keyiter : Builtin.Dict_items.ownsTuple "dict_keyiterator" = false := by decide

theorem dctNext {it d : Addr} {i ep : Nat} {es : List DictEntry} {en : DictEntry} {Q : Option Value → Shared → Prop} (hit : s.heap.IsKeyIter it d i es.length ep) (e : s.heap.get? d = some (dctO es ep)) (hx : es[i]? = some en)
    (hQ : ∀ h', h'.IsKeyIter it d (i + 1) es.length ep → Heap.SameBut it s.heap h' → Q (some en.key) { s with heap := h' }) : wpAny (model prog w) A (pyNext (.ref it)) Q E s := by
  obtain ⟨o, ho, hc, hd⟩ := id hit
  obtain ⟨hlt, hel⟩ := List.getElem?_eq_some_iff.mp hx
  unfold pyNext
  refine wpAny_bind (wpAny_attempt (wpAny_callSpecial?_slot (name := Str.ofString "__next__") hit.typeIs F.slot_dict_keyiterator_next
    (wpAny_call_entry F.slot_dict_keyiterator_next hit.typeIs F.entry_dict_keyiterator_next ?_ (F.args_dict_keyiterator_next_1 _))))
  refine wpAny_bind (wpAny_pure (wpAny_bind (wpAny_bind ?_)))
  first | refine wpAny_bind (wpAny_typeNameOfWhole_keyiter hit.typeIs (wpAny_pure ?_)) | refine wpAny_bind (wpAny_typeNameOf_keyiter hit.typeIs (wpAny_pure ?_))
  refine wpAny_bind (wpAny_fieldsOf ho hd ?_)
  simp only [own_keyiter, Bool.false_eq_true, if_false]
  show wpAny _ _ (if (Value.ref d == Value.none) = true then _ else _) _ _ s
  rw [if_neg (show ¬ ((Value.ref d == Value.none) = true) from Bool.false_ne_true)]
  refine wpAny_bind (wpAny_pure (wpAny_bind (wpAny_dictEntries e rfl ?_)))
  rw [if_neg (by simp)]
  refine wpAny_bind (wpAny_pure (wpAny_bind (wpAny_dictEpoch e rfl ?_)))
  rw [if_neg (by simp)]
  refine wpAny_pure ?_
  have hlt' : i < es.toArray.size := by simpa using hlt
  simp only [show ¬ ((i : Int) < 0) from by omega, if_false, Int.toNat_natCast, Array.getElem?_eq_getElem hlt']
  refine wpAny_bind ?_
  first | refine wpAny_bind (wpAny_typeNameOfWhole_keyiter hit.typeIs (wpAny_pure ?_)) | refine wpAny_bind (wpAny_typeNameOf_keyiter hit.typeIs (wpAny_pure ?_))
  refine wpAny_bind (wpAny_isOneOf_keyiter hit.typeIs ?_)
  show wpAny _ _ (setField (.ref it) 1 (rawInt ((i : Int) + 1)) >>= _) _ _ s
  refine wpAny_bind (wpAny_setField ho hd (by simp) ?_)
  have hit' : (s.heap.update it (Obj.mapFields (·.setIfInBounds 1 (rawInt ((i : Int) + 1))))).IsKeyIter it d (i + 1) es.length ep :=
    ⟨_, Heap.get?_update_self _ ho (Obj.isFreed_of_fields (Obj.data_mapFields hd _)), (Obj.cls_mapFields ..).trans hc, by rw [Obj.data_mapFields hd]; simp [rawInt]⟩
  refine wpAny_bind (wpAny_holding ?_)
  refine wpAny_bind (wpAny_isOneOf_keyiter (s := { s with heap := s.heap.update it (Obj.mapFields (·.setIfInBounds 1 (rawInt ((i : Int) + 1)))) }) hit'.typeIs ?_)
  have hkey : es.toArray[i] = en := by simpa using hel
  rw [hkey]
  show wpAny _ _ (pure en.key) _ _ _
  exact wpAny_pure (wpAny_pure ⟨_, rfl, wpAny_pure (hQ _ hit' (Heap.SameBut.update ..))⟩)

theorem dctStop {it d : Addr} {ep : Nat} {es : List DictEntry} {Q : Option Value → Shared → Prop} (hh : A.handled = none) (hit : s.heap.IsKeyIter it d es.length es.length ep) (e : s.heap.get? d = some (dctO es ep))
    (hQ : ∀ h', Heap.ExtBut it s.heap h' → Q none { s with heap := h' }) : wpAny (model prog w) A (pyNext (.ref it)) Q E s := by
  obtain ⟨o, ho, hc, hd⟩ := id hit
  unfold pyNext
  refine wpAny_bind (wpAny_attempt (wpAny_callSpecial?_slot (name := Str.ofString "__next__") hit.typeIs F.slot_dict_keyiterator_next
    (wpAny_call_entry F.slot_dict_keyiterator_next hit.typeIs F.entry_dict_keyiterator_next ?_ (F.args_dict_keyiterator_next_1 _))))
  refine wpAny_bind (wpAny_pure (wpAny_bind (wpAny_bind ?_)))
  first | refine wpAny_bind (wpAny_typeNameOfWhole_keyiter hit.typeIs (wpAny_pure ?_)) | refine wpAny_bind (wpAny_typeNameOf_keyiter hit.typeIs (wpAny_pure ?_))
  refine wpAny_bind (wpAny_fieldsOf ho hd ?_)
  simp only [own_keyiter, Bool.false_eq_true, if_false]
  show wpAny _ _ (if (Value.ref d == Value.none) = true then _ else _) _ _ s
  rw [if_neg (show ¬ ((Value.ref d == Value.none) = true) from Bool.false_ne_true)]
  refine wpAny_bind (wpAny_pure (wpAny_bind (wpAny_dictEntries e rfl ?_)))
  rw [if_neg (by simp)]
  refine wpAny_bind (wpAny_pure (wpAny_bind (wpAny_dictEpoch e rfl ?_)))
  rw [if_neg (by simp)]
  refine wpAny_pure ?_
  have hge : es.toArray.size ≤ es.length := by simp
  simp only [show ¬ ((es.length : Int) < 0) from by omega, if_false, Int.toNat_natCast, Array.getElem?_eq_none hge]
  refine wpAny_bind ?_
  first | refine wpAny_bind (wpAny_typeNameOfWhole_keyiter hit.typeIs (wpAny_pure ?_)) | refine wpAny_bind (wpAny_typeNameOf_keyiter hit.typeIs (wpAny_pure ?_))
  show wpAny _ _ (setField (.ref it) 0 .none >>= _) _ _ s
  refine wpAny_bind (wpAny_setField ho hd (by simp) ?_)
  show wpAny _ _ (newExc (.type "StopIteration") [] >>= _) _ _ _
  refine wpAny_bind ?_
  simp only [newExc, newTuple]
  refine wpAny_bind (wpAny_newObj_type ?_ (by size_fits))
  refine wpAny_bind (m := firstArgMember _ _) (wpAny_of_eq (a := Value.none) (by first | rfl | (simp only [firstArgMember]; rfl)) ?_)
  refine wpAny_newObj_type ?_ (by size_fits)
  simp only [raiseNew]
  refine wpAny_bind (wpAny_handled ?_)
  rw [show A.in1.handled = none from hh]
  refine wpAny_bind (wpAny_pure (wpAny_throw ?_))
  refine wpAny_bind (wpAny_isInstance (T := "StopIteration") (b := true) ⟨_, Heap.get?_push_size _ rfl, rfl⟩ isSubtype_stop ?_)
  exact wpAny_pure (hQ _ (((Heap.SameBut.update ..).extBut.push _).push _))

/-- an iterator at its i-th item; the source may be a list of the frame's own (then its address is told) -/
inductive ItSt (w : World) (Φ : PH) (h : Heap) (it : Addr) (items : List D) (i : Nat) : Option Addr → Prop
  | list {p : Addr} {vs : List Value} {n : Nat} : h.IsListIter it p i → Φ p = some (lstO vs n) → RepL w Φ vs items → ItSt w Φ h it items i none
  | loc {p : Addr} {vs : List Value} {n : Nat} : h.IsListIter it p i → h.get? p = some (lstO vs n) → p ≠ it → RepL w Φ vs items → ItSt w Φ h it items i (some p)
  | tup {p : Addr} {vs : List Value} {n : Nat} : h.IsTupleIter it p i → Φ p = some (tupO vs n) → RepL w Φ vs items → ItSt w Φ h it items i none
  | dct {p : Addr} {es : List DictEntry} {ep : Nat} {kvs : List (Key × D)} : h.IsKeyIter it p i es.length ep → Φ p = some (dctO es ep) → RepK w Φ es kvs → items = kvs.map (fun kv => ofKey kv.1) → ItSt w Φ h it items i none
  | rng {n : Nat} : IsRangeIter h it (i : Int) ((n : Int) - i) 1 → items = (List.range n).map (fun k : Nat => D.int (k : Int)) → ItSt w Φ h it items i none

theorem RepK.get {es : List DictEntry} {kvs : List (Key × D)} (r : RepK w Φ es kvs) {i : Nat} {kv : Key × D} (e : kvs[i]? = some kv) : ∃ en, es[i]? = some en ∧ isKey Φ kv.1 en.key := by
  induction kvs generalizing es i with
  | nil => simp at e
  | cons x kvs ih =>
    cases r with
    | cons h1 h2 h3 rs =>
      cases i with
      | zero => simp at e; subst e; exact ⟨_, rfl, h1⟩
      | succ i => simpa using ih rs (by simpa using e)
theorem RepK.length {es : List DictEntry} {kvs : List (Key × D)} (r : RepK w Φ es kvs) : es.length = kvs.length := by
  induction kvs generalizing es with
  | nil => cases r; rfl
  | cons x kvs ih => cases r with | cons _ _ _ rs => simp [ih rs]

theorem ItSt.alive {it : Addr} {items : List D} {i : Nat} {q : Option Addr} (x : ItSt w Φ s.heap it items i q) : ∃ o, s.heap.get? it = some o := by
  cases x with
  | list h _ _ => obtain ⟨o, ho, _⟩ := h; exact ⟨o, ho⟩
  | loc h _ _ _ => obtain ⟨o, ho, _⟩ := h; exact ⟨o, ho⟩
  | tup h _ _ => obtain ⟨o, ho, _⟩ := h; exact ⟨o, ho⟩
  | dct h _ _ _ => obtain ⟨o, ho, _⟩ := h; exact ⟨o, ho⟩
  | rng h _ => exact ⟨_, h⟩

theorem ItSt.next {it : Addr} {items : List D} {i : Nat} {q : Option Addr} {d : D} {Q : Option Value → Shared → Prop} (hs : Seen Φ s.heap) (hΦ : Φ it = none) (x : ItSt w Φ s.heap it items i q) (hi : items[i]? = some d)
    (h : ∀ v h' tk, Rep w Φ v d → ItSt w Φ h' it items (i + 1) q → Heap.SameBut it s.heap h' → Q (some v) { s with heap := h', toks := tk }) : wpAny (model prog w) A (pyNext (.ref it)) Q E s := by
  have ne : ∀ {p o}, Φ p = some o → p ≠ it := fun e q => by rw [q, hΦ] at e; cases e
  cases x with
  | list a b c =>
    obtain ⟨v, hv, rv⟩ := c.get hi
    exact wpAny_pyNext_list_item a (isList_of (hs _ _ b)) (by simpa using hv) fun h' a' hb => h v h' s.toks rv (.list a' b c) hb
  | loc a b c' c =>
    obtain ⟨v, hv, rv⟩ := c.get hi
    exact wpAny_pyNext_list_item a (isList_of b) (by simpa using hv) fun h' a' hb => h v h' s.toks rv (.loc a' ((hb.2 _ c').trans b) c' c) hb
  | tup a b c =>
    obtain ⟨v, hv, rv⟩ := c.get hi
    exact wpAny_pyNext_tuple_item a (isTuple_of (hs _ _ b)) (by simpa using hv) fun h' a' hb => h v h' s.toks rv (.tup a' b c) hb
  | @dct p es ep kvs a b c e =>
    subst e
    rw [List.getElem?_map] at hi
    cases hk : kvs[i]? with
    | none => rw [hk] at hi; cases hi
    | some kv =>
      rw [hk] at hi
      obtain rfl : ofKey kv.1 = d := Option.some.inj hi
      obtain ⟨en, he, hkey⟩ := c.get hk
      exact dctNext a (hs _ _ b) he fun h' a' hb => h _ h' s.toks (rep_ofKey hkey) (.dct a' b c rfl) hb
  | @rng n a e =>
    subst e
    have hin : i < n := by
      have := (List.getElem?_eq_some_iff.mp hi).1
      simpa using this
    have hd : d = .int (i : Int) := by
      rw [List.getElem?_map, List.getElem?_range hin] at hi
      exact (Option.some.inj hi).symm
    subst hd
    refine wpAny_pyNext_range_item a (by omega) fun h' a' hb => h _ h' _ (.int _ _) (.rng (n := n) ?_ rfl) hb
    have e1 : (((i + 1 : Nat) : Int)) = (i : Int) + 1 := by omega
    have e2 : ((n : Int) - ((i + 1 : Nat) : Int)) = (n : Int) - i - 1 := by omega
    rw [e1, show (n : Int) - ((i : Int) + 1) = (n : Int) - i - 1 by omega]
    exact a'

theorem ItSt.stop {it : Addr} {items : List D} {q : Option Addr} {Q : Option Value → Shared → Prop} (hs : Seen Φ s.heap) (hΦ : Φ it = none) (hh : A.handled = none) (x : ItSt w Φ s.heap it items items.length q)
    (h : ∀ h', Heap.ExtBut it s.heap h' → Q none { s with heap := h' }) : wpAny (model prog w) A (pyNext (.ref it)) Q E s := by
  cases x with
  | list a b c => exact wpAny_pyNext_list_end hh a (isList_of (hs _ _ b)) (by simp [c.length]) h
  | loc a b c' c => exact wpAny_pyNext_list_end hh a (isList_of b) (by simp [c.length]) h
  | tup a b c => exact wpAny_pyNext_tuple_end hh a (isTuple_of (hs _ _ b)) (by simp [c.length]) h
  | @dct p es ep kvs a b c e =>
    have : items.length = es.length := by rw [e, List.length_map, c.length]
    rw [this] at a
    exact dctStop hh a (hs _ _ b) h
  | @rng n a e =>
    have : items.length = n := by rw [e]; simp
    exact wpAny_pyNext_range_end hh a (by omega) h

theorem ItSt.carry {it : Addr} {items : List D} {i : Nat} {q : Option Addr} {Φ' : PH} {h' : Heap} (x : ItSt w Φ s.heap it items i q) (hm : ∀ a o, Φ a = some o → Φ' a = some o) (hit : ∀ o, s.heap.get? it = some o → h'.get? it = some o)
    (hq : ∀ p, q = some p → ∃ vs n, h'.get? p = some (lstO vs n) ∧ RepL w Φ' vs items) : ItSt w Φ' h' it items i q := by
  cases x with
  | list a b c => obtain ⟨o, ho, r⟩ := a; exact .list ⟨o, hit o ho, r⟩ (hm _ _ b) (c.mono hm)
  | loc a b c' c =>
    obtain ⟨o, ho, r⟩ := a
    obtain ⟨vs, n, e1, e2⟩ := hq _ rfl
    exact .loc ⟨o, hit o ho, r⟩ e1 c' e2
  | tup a b c => obtain ⟨o, ho, r⟩ := a; exact .tup ⟨o, hit o ho, r⟩ (hm _ _ b) (c.mono hm)
  | dct a b c e => obtain ⟨o, ho, r⟩ := a; exact .dct ⟨o, hit o ho, r⟩ (hm _ _ b) (c.mono hm) e
  | rng a e => exact .rng (hit _ a) e

theorem ItSt.self {it : Addr} {items : List D} {i : Nat} {q : Option Addr} {Q : Value → Shared → Prop} (x : ItSt w Φ s.heap it items i q) (h : Q (.ref it) s) : wpAny (model prog w) A (pyIter (.ref it)) Q E s := by
  cases x with
  | list a b c => exact wpAny_pyIter_listiter a h
  | loc a b c' c => exact wpAny_pyIter_listiter a h
  | tup a b c => exact wpAny_pyIter_tupleiter a h
  | dct a b c e => exact wpAny_pyIter_keyiter a h
  | rng a e => exact wpAny_pyIter_rangeiter a h

theorem ItSt.letGo {it : Addr} {items : List D} {i : Nat} {q : Option Addr} {t : Expr} {v : Value} {Q : Unit → Shared → Prop} (x : ItSt w Φ s.heap it items i q) (h : Q () s) : wpAny (model prog w) A (letOwnedTupleGo t (.ref it) v) Q E s := by
  have key : ∀ {o : Obj} {c : String}, s.heap.get? it = some o → o.cls = .type c → (["enumerate", "zip", "dict_itemiterator", "dict_reverseitemiterator", "odict_iterator", "itertools.zip_longest", "itertools.pairwise"].contains c) = false →
      wpAny (model prog w) A (letOwnedTupleGo t (.ref it) v) Q E s := by
    intro o c ho hc hno
    unfold letOwnedTupleGo
    split
    · cases v <;> try exact wpAny_pure h
      refine wpAny_bind (wpAny_load ho ?_)
      rw [hc]
      cases hd : o.data <;> try exact wpAny_pure h
      simp only [hno, Bool.false_and, Bool.false_eq_true, if_false]
      exact wpAny_pure h
    · cases v <;> try exact wpAny_pure h
      refine wpAny_bind (wpAny_load ho ?_)
      rw [hc]
      cases hd : o.data <;> try exact wpAny_pure h
      simp only [hno, Bool.false_and, Bool.false_eq_true, if_false]
      exact wpAny_pure h
    · exact wpAny_pure h
  cases x with
  | list a b c => obtain ⟨o, ho, hc, _⟩ := a; exact key ho hc (by decide)
  | loc a b c' c => obtain ⟨o, ho, hc, _⟩ := a; exact key ho hc (by decide)
  | tup a b c => obtain ⟨o, ho, hc, _⟩ := a; exact key ho hc (by decide)
  | dct a b c e => obtain ⟨o, ho, hc, _⟩ := a; exact key ho hc (by decide)
  | rng a e => exact key a rfl (by decide)
end
end Mine

-- SnI
namespace Mine
open PySem PySem.SeqAt PySem.MeetsSeq
set_option linter.unusedSectionVars false
set_option linter.unusedSimpArgs false
set_option linter.unusedVariables false

/-- what stands for the whole call: the program, the world, the heap at its start -/
structure Bs where
  prog : Program
  w : World
  H0 : Heap
  mg : Str → Option Value
  mb : Str → Option Value
  g : H0.Ns mainGlobals mg
  b : H0.Ns builtinsNs mb
  boots : ∀ x : Str, x ≠ "__name__" → mb x = bootBuiltins x
  nolimit : H0.NoLimit

structure Ok (B : Bs) (Φ : PH) (α : List Addr) (σ : Store) (h : Heap) : Prop where
  base : ∀ a o, B.H0.get? a = some o → Φ a = some o
  seen : Seen Φ h
  len : α.length = σ.length
  nodup : α.Nodup
  live : ∀ a, a ∈ α → ∃ x, h.get? a = some x
  cell : ∀ (k : Nat) a d, α[k]? = some a → σ[k]? = some d → d = .nil ∨ (((∃ l, d = .lst l) ∨ ∃ l, d = .dct l) ∧ ∃ o, h.get? a = some o ∧ Φ a = none ∧ a ≠ sysModules ∧ Cont B.w Φ o d)

section
variable {B : Bs} {Φ Φ' : PH} {α : List Addr} {σ : Store} {h h' : Heap}

theorem Ok.keep0 (o : Ok B Φ α σ h) : ∀ a x, B.H0.get? a = some x → h.get? a = some x := fun a x e => o.seen a x (o.base a x e)
theorem Ok.low (o : Ok B Φ α σ h) : Low h := by
  obtain ⟨x, _, _, hx, _⟩ := B.g
  exact ⟨x, o.keep0 _ _ hx⟩
theorem Ok.ns (o : Ok B Φ α σ h) : h.Ns mainGlobals B.mg := B.g.keeps o.keep0
theorem Ok.nsb (o : Ok B Φ α σ h) : h.Ns builtinsNs B.mb := B.b.keeps o.keep0

theorem Ok.deref (o : Ok B Φ α σ h) {v : Value} {d d' : D} (r : RepV B.w Φ α v d) (e : deref σ d = some d') : AtH B.w Φ h v d' ∧ (∀ k, keyOf d' = some k → isKey Φ k v) ∧ (∀ l, d' = .tup l → Rep B.w Φ v d') := by
  cases d with
  | loc k =>
    obtain ⟨a, ha, rfl⟩ := r
    have e' : σ[k]? = some d' ∧ d' ≠ .nil := deref_inv e
    rcases o.cell k a d' ha e'.1 with q | ⟨hd, x, hx, _, hs, c⟩
    · exact absurd q e'.2
    · refine ⟨.obj hx hs c, fun q hq => ?_, fun l hl => ?_⟩
      · rcases hd with ⟨l, rfl⟩ | ⟨l, rfl⟩ <;> cases hq
      · rcases hd with ⟨l', rfl⟩ | ⟨l', rfl⟩ <;> cases hl
  | _ =>
    obtain rfl := Option.some.inj e
    exact ⟨Rep.at r o.seen, fun k hk => keyOf_isKey r hk, fun _ _ => r⟩

/-- a step that only makes things -/
theorem Ok.makes (o : Ok B Φ α σ h) (c : Chg NoX Φ Φ' h h') (hs : Seen Φ' h') : Ok B Φ' α σ h' :=
  ⟨fun a x e => c.mono a x (o.base a x e), hs, o.len, o.nodup, fun a ha => let ⟨x, hx⟩ := o.live a ha; ⟨x, c.keep a x id hx⟩, fun k a d ha hd => (o.cell k a d ha hd).imp id fun ⟨hd', x, hx, hn, hs', ct⟩ => ⟨hd', x, c.keep a x id hx, (c.new a x id hx).trans hn, hs', ct.mono c.mono⟩⟩

/-- a value of a name's -/
structure Nm (B : Bs) (Φ : PH) (α : List Addr) (env : Env) (Γ : Ctx) (h : Heap) : Prop where
  kind : env.scope.kind = .function
  glob : env.globals = mainGlobals
  bltn : env.builtins = builtinsNs
  loc : ∃ m, h.Ns env.locals m ∧ ∀ x d, env.kindOf x = some .local → Γ x = some d → ∃ v, m x = some v ∧ RepV B.w Φ α v d
  locΦ : Φ env.locals = none
  locα : env.locals ∉ α
  cell : ∀ x k, env.kindOf x = some k → k = .cell ∨ k = .free → ∃ c v, env.cells.lookup x = some c ∧ h.IsCell c v ∧ Φ c = none ∧ c ∉ α ∧ c ≠ env.locals ∧ ∀ d, Γ x = some d → ∃ u, v = some u ∧ RepV B.w Φ α u d
  apart : ∀ x y c, env.cells.lookup x = some c → env.cells.lookup y = some c → x = y
  glo : ∀ x d, env.kindOf x = some .globalImplicit → Γ x = some d → ∃ v, B.mg x = some v ∧ Rep B.w Φ v d

theorem Nm.step {X : Addr → Prop} {env : Env} {Γ : Ctx} (n : Nm B Φ α env Γ h) (c : Chg X Φ Φ' h h') (hL : ¬ X env.locals) (hC : ∀ x k a, env.kindOf x = some k → k = .cell ∨ k = .free → env.cells.lookup x = some a → ¬ X a) : Nm B Φ' α env Γ h' where
  kind := n.kind
  glob := n.glob
  bltn := n.bltn
  loc := by
    obtain ⟨m, ⟨o, es, ep, ho, r⟩, f⟩ := n.loc
    exact ⟨m, ⟨o, es, ep, c.keep _ _ hL ho, r⟩, fun x d k e => let ⟨v, a, b⟩ := f x d k e; ⟨v, a, b.mono c.mono⟩⟩
  locΦ := by
    obtain ⟨m, ⟨o, es, ep, ho, r⟩, f⟩ := n.loc
    exact (c.new _ _ hL ho).trans n.locΦ
  locα := n.locα
  cell := fun x k hk hk' => by
    obtain ⟨a, v, h1, ⟨o, ho, hd⟩, h3, h4, h5, h6⟩ := n.cell x k hk hk'
    have hX := hC x k a hk hk' h1
    exact ⟨a, v, h1, ⟨o, c.keep _ _ hX ho, hd⟩, (c.new _ _ hX ho).trans h3, h4, h5, fun d e => let ⟨u, q, r⟩ := h6 d e; ⟨u, q, r.mono c.mono⟩⟩
  apart := n.apart
  glo := fun x d k e => let ⟨v, a, b⟩ := n.glo x d k e; ⟨v, a, b.mono c.mono⟩
theorem Nm.chg {env : Env} {Γ : Ctx} (n : Nm B Φ α env Γ h) (c : Chg (· ∈ α) Φ Φ' h h') : Nm B Φ' α env Γ h' :=
  n.step c n.locα fun x k a hk hk' e => by
    obtain ⟨a', v, h1, h2, h3, h4, _⟩ := n.cell x k hk hk'
    rw [e] at h1; cases h1; exact h4

/-- the place of a name of the frame's own -/
noncomputable def slotOf (env : Env) (x : Str) (a : Addr) : Prop := (env.kindOf x = some .local ∧ a = env.locals) ∨ (env.kindOf x = some .cell ∧ env.cells.lookup x = some a)

theorem Nm.slot_ne {env : Env} {Γ : Ctx} (n : Nm B Φ α env Γ h) {x : Str} {a : Addr} (q : slotOf env x a) : a ∉ α ∧ Φ a = none := by
  rcases q with ⟨_, rfl⟩ | ⟨hk, e⟩
  · exact ⟨n.locα, n.locΦ⟩
  · obtain ⟨a', v, h1, h2, h3, h4, _⟩ := n.cell x _ hk (.inl rfl)
    rw [e] at h1; cases h1; exact ⟨h4, h3⟩
theorem Ok.slot {env : Env} {Γ : Ctx} (o : Ok B Φ α σ h) (n : Nm B Φ α env Γ h) {x : Str} (c : Chg (slotOf env x) Φ Φ h h') (hs : Seen Φ h') : Ok B Φ α σ h' :=
  ⟨o.base, hs, o.len, o.nodup, fun a ha => let ⟨y, hy⟩ := o.live a ha; ⟨y, c.keep a y (fun q => (n.slot_ne q).1 ha) hy⟩,
    fun k a d ha hd => (o.cell k a d ha hd).imp id fun ⟨hd', y, hy, r⟩ => ⟨hd', y, c.keep a y (fun q => (n.slot_ne q).1 (List.mem_iff_getElem?.mpr ⟨k, ha⟩)) hy, r⟩⟩

theorem Chg.any {X : Addr → Prop} (c : Chg NoX Φ Φ' h h') : Chg X Φ Φ' h h' := c.weak fun _ f => f.elim

variable {A : Around} {E : Value → Shared → Prop} {s : Shared} {env : Env} {Γ : Ctx}

theorem load_name (o : Ok B Φ α σ s.heap) (n : Nm B Φ α env Γ s.heap) {x : Str} {d : D} {Q : Value → Shared → Prop} (hk : env.kindOf x = some .local ∨ env.kindOf x = some .cell ∨ env.kindOf x = some .free ∨ env.kindOf x = some .globalImplicit)
    (hx : (x == ("__classdict__" : Str)) = false) (e : Γ x = some d) (h : ∀ v, RepV B.w Φ α v d → Q v s) : wpAny (model B.prog B.w) A (loadName env x) Q E s := by
  rcases hk with hk | hk | hk | hk
  · obtain ⟨m, hn, f⟩ := n.loc
    obtain ⟨v, hv, r⟩ := f x d hk e
    exact wpAny_loadName_local n.kind hk hn hv (h v r)
  · obtain ⟨c, v, h1, h2, _, _, _, h6⟩ := n.cell x _ hk (.inl rfl)
    obtain ⟨u, rfl, r⟩ := h6 d e
    exact wpAny_loadName_cell n.kind hk h1 h2 (h u r)
  · obtain ⟨c, v, h1, h2, _, _, _, h6⟩ := n.cell x _ hk (.inr rfl)
    obtain ⟨u, rfl, r⟩ := h6 d e
    exact wpAny_loadName_free n.kind hk h1 h2 (h u r) hx
  · obtain ⟨v, hv, r⟩ := n.glo x d hk e
    have : loadName env x = loadGlobal env x := by
      unfold loadName
      simp only [Env.blockKind, n.kind, hk, ScopeKind.isAnnotationScope, Bool.false_and, Bool.false_eq_true, if_false]
    rw [this]
    exact Calls.loadGlobal_global (by rw [n.glob]; exact o.ns) hv (h v r.repV)

theorem SameBut.chg {a : Addr} {X : Addr → Prop} {h h' : Heap} (hs : Heap.SameBut a h h') (hX : X a) : Chg X Φ Φ h h' := Chg.ext hs.extBut hX
theorem Seen.same {a : Addr} {h h' : Heap} (x : Seen Φ h) (hs : Heap.SameBut a h h') (ha : Φ a = none) : Seen Φ h' := x.ext hs.extBut ha

theorem store_name (o : Ok B Φ α σ s.heap) (n : Nm B Φ α env Γ s.heap) {x : Str} {d : D} {v : Value} {Q : Unit → Shared → Prop} (hk : env.kindOf x = some .local ∨ env.kindOf x = some .cell) (r : RepV B.w Φ α v d)
    (h : ∀ h' tk, Chg (slotOf env x) Φ Φ s.heap h' → Ok B Φ α σ h' → Nm B Φ α env (upd Γ x d) h' → Q () { s with heap := h', toks := tk }) : wpAny (model B.prog B.w) A (storeName env x v) Q E s := by
  rcases hk with hk | hk
  · obtain ⟨m, hn, f⟩ := n.loc
    refine wpAny_storeName_local hk hn (fun h' hn' hs' => ?_) (by rw [n.kind]; rfl)
    have c : Chg (slotOf env x) Φ Φ s.heap h' := SameBut.chg hs' (.inl ⟨hk, rfl⟩)
    refine h h' _ c (o.slot n c (o.seen.same hs' n.locΦ)) ⟨n.kind, n.glob, n.bltn, ⟨_, hn', fun y d' ky ey => ?_⟩, n.locΦ, n.locα, fun y k ky ky' => ?_, n.apart, fun y d' ky ey => ?_⟩
    · by_cases hy : y = x
      · subst hy
        simp only [upd, if_true, Option.some.injEq] at ey ⊢
        subst ey
        exact ⟨v, rfl, r⟩
      · simp only [upd, hy, if_false] at ey ⊢
        exact f y d' ky ey
    · obtain ⟨a, u, h1, h2, h3, h4, h5, h6⟩ := n.cell y k ky ky'
      refine ⟨a, u, h1, h2.sameBut hs' h5, h3, h4, h5, fun d' ey => ?_⟩
      have hy : y ≠ x := by
        rintro rfl
        rw [hk] at ky; cases ky
        rcases ky' with q | q <;> cases q
      simp only [upd, hy, if_false] at ey
      exact h6 d' ey
    · have hy : y ≠ x := by rintro rfl; rw [hk] at ky; cases ky
      simp only [upd, hy, if_false] at ey
      exact n.glo y d' ky ey
  · obtain ⟨c, u, h1, h2, h3, h4, h5, h6⟩ := n.cell x _ hk (.inl rfl)
    refine wpAny_storeName_cell n.kind hk h1 h2 fun h' hc' hs' => ?_
    have cg : Chg (slotOf env x) Φ Φ s.heap h' := SameBut.chg hs' (.inr ⟨hk, h1⟩)
    obtain ⟨m, hn, f⟩ := n.loc
    refine h h' s.toks cg (o.slot n cg (o.seen.same hs' h3)) ⟨n.kind, n.glob, n.bltn, ⟨m, hn.sameBut hs' (Ne.symm h5), fun y d' ky ey => ?_⟩, n.locΦ, n.locα, fun y k ky ky' => ?_, n.apart, fun y d' ky ey => ?_⟩
    · have hy : y ≠ x := by rintro rfl; rw [hk] at ky; cases ky
      simp only [upd, hy, if_false] at ey
      exact f y d' ky ey
    · by_cases hy : y = x
      · subst hy
        refine ⟨c, some v, h1, hc', h3, h4, h5, fun d' ey => ?_⟩
        simp only [upd, if_true, Option.some.injEq] at ey
        subst ey
        exact ⟨v, rfl, r⟩
      · obtain ⟨a, u', q1, q2, q3, q4, q5, q6⟩ := n.cell y k ky ky'
        have hac : a ≠ c := fun q => hy (n.apart y x c (q ▸ q1) h1)
        refine ⟨a, u', q1, q2.sameBut hs' hac, q3, q4, q5, fun d' ey => ?_⟩
        simp only [upd, hy, if_false] at ey
        exact q6 d' ey
    · have hy : y ≠ x := by rintro rfl; rw [hk] at ky; cases ky
      simp only [upd, hy, if_false] at ey
      exact n.glo y d' ky ey

theorem assign_name (o : Ok B Φ α σ s.heap) (n : Nm B Φ α env Γ s.heap) {x : Str} {p : Pos} {d : D} {v : Value} {Q : Unit → Shared → Prop} (hk : env.kindOf x = some .local ∨ env.kindOf x = some .cell) (r : RepV B.w Φ α v d)
    (h : ∀ h' tk, Chg (slotOf env x) Φ Φ s.heap h' → Ok B Φ α σ h' → Nm B Φ α env (upd Γ x d) h' → Q () { s with heap := h', toks := tk }) : wpAny (model B.prog B.w) A (assign (.Name x p) env v) Q E s :=
  wpAny_assign_Name (store_name o n hk r h)
end
end Mine

-- SnJ
namespace Mine
open PySem PySem.SeqAt PySem.MeetsSeq
set_option linter.unusedSectionVars false
set_option linter.unusedSimpArgs false
set_option linter.unusedVariables false

inductive RepVL (w : World) (Φ : PH) (α : List Addr) : List Value → List D → Prop
  | nil : RepVL w Φ α [] []
  | cons {v : Value} {d : D} {vs : List Value} {ds : List D} : RepV w Φ α v d → RepVL w Φ α vs ds → RepVL w Φ α (v :: vs) (d :: ds)
section
variable {w : World} {Φ Φ' : PH} {α : List Addr}
theorem RepVL.mono (h : ∀ a o, Φ a = some o → Φ' a = some o) {vs : List Value} {ds : List D} (r : RepVL w Φ α vs ds) : RepVL w Φ' α vs ds := by
  induction r with
  | nil => exact .nil
  | cons r1 _ ih => exact .cons (r1.mono h) ih
theorem RepVL.plain {vs : List Value} {ds : List D} (r : RepVL w Φ α vs ds) (h : plainAll ds = true) : RepL w Φ vs ds := by
  induction r with
  | nil => exact .nil
  | cons r1 _ ih =>
    simp only [plainAll, List.all_cons, Bool.and_eq_true, Bool.not_eq_true'] at h
    exact .cons (r1.rep h.1) (ih h.2)
theorem RepVL.length {vs : List Value} {ds : List D} (r : RepVL w Φ α vs ds) : vs.length = ds.length := by
  induction r with
  | nil => rfl
  | cons _ _ ih => simp [ih]
end

noncomputable def Room (r : Nat) (A : Around) : Prop := A.handled = none ∧ A.depth + r < recursionLimit ∧ A.units + 20 * r + 100 < cLine

noncomputable def GoE (B : Bs) (Φ : PH) (α : List Addr) (σ' : Store) (d : D) (s : Shared) (Q : Value → Shared → Prop) : Prop :=
  ∀ v h' tk Φ', Chg (· ∈ α) Φ Φ' s.heap h' → Ok B Φ' α σ' h' → RepV B.w Φ' α v d → Q v { s with heap := h', toks := tk }
noncomputable def GoT (B : Bs) (Φ : PH) (α : List Addr) (σ' : Store) (b : Bool) (s : Shared) (Q : Bool → Shared → Prop) : Prop :=
  ∀ h' tk Φ', Chg (· ∈ α) Φ Φ' s.heap h' → Ok B Φ' α σ' h' → Q b { s with heap := h', toks := tk }
noncomputable def GoEs (B : Bs) (Φ : PH) (α : List Addr) (σ' : Store) (ds : List D) (s : Shared) (Q : List Value → Shared → Prop) : Prop :=
  ∀ vs h' tk Φ', Chg (· ∈ α) Φ Φ' s.heap h' → Ok B Φ' α σ' h' → RepVL B.w Φ' α vs ds → Q vs { s with heap := h', toks := tk }

section
variable {B : Bs} {Φ Φ' : PH} {α : List Addr} {σ' : Store} {s : Shared} {h : Heap} {tk : Nat}
theorem GoE.go {d : D} {Q : Value → Shared → Prop} (g : GoE B Φ α σ' d s Q) (c : Chg (· ∈ α) Φ Φ' s.heap h) : GoE B Φ' α σ' d { s with heap := h, toks := tk } Q := fun v h' tk' Φ'' c' o r => g v h' tk' Φ'' (c.trans c') o r
theorem GoT.go {d : Bool} {Q : Bool → Shared → Prop} (g : GoT B Φ α σ' d s Q) (c : Chg (· ∈ α) Φ Φ' s.heap h) : GoT B Φ' α σ' d { s with heap := h, toks := tk } Q := fun h' tk' Φ'' c' o => g h' tk' Φ'' (c.trans c') o
theorem GoE.yields {d : D} {Q : Value → Shared → Prop} {σ : Store} (g : GoE B Φ α σ d s Q) (o : Ok B Φ α σ s.heap) : Yields B.w Φ s d Q := fun v h' tk Φ' c hs r => g v h' tk Φ' c.any (o.makes c hs) r.repV
theorem GoE.here {d : D} {Q : Value → Shared → Prop} {σ : Store} (g : GoE B Φ α σ d s Q) (o : Ok B Φ α σ s.heap) {v : Value} (r : RepV B.w Φ α v d) (tk : Nat) : Q v { s with toks := tk } := g v s.heap tk Φ .refl o r
end

/-- a function of the text's, by its address -/
noncomputable def FnOk (B : Bs) (r : Nat) (fa : Addr) (f : Fn) : Prop := ∀ (A : Around) (Φ : PH) (α : List Addr) (σ : Store) (s : Shared) (vs : List Value) (ds : List D) (d : D) (σ' : Store) (E Q : Value → Shared → Prop),
  Room r A → Ok B Φ α σ s.heap → RepVL B.w Φ α vs ds → f ds σ = some (d, σ') → GoE B Φ α σ' d s Q → wpAny (model B.prog B.w) A (call (.ref fa) vs) Q E s
structure FnsOk (B : Bs) (r : Nat) (F : Fns) : Prop where
  fn : ∀ x f, F x = some f → ∃ fa o fd, B.mg x = some (.ref fa) ∧ B.H0.get? fa = some o ∧ o.data = .func fd ∧ FnOk B r fa f
  free : ∀ x, x ∈ ([Str.ofString "len", Str.ofString "range", Str.ofString "max", Str.ofString "sorted", Str.ofString "str", Str.ofString "list"] : List Str) → B.mg x = none

section
variable (B : Bs) (F : Fns) (r n : Nat)
noncomputable def SndE : Prop := ∀ (Γ : Ctx) (e : Expr) (σ : Store) (d : D) (σ' : Store), evE n F Γ e σ = some (d, σ') → ∀ (m : Nat) (A : Around) (env : Env) (Φ : PH) (α : List Addr) (s : Shared) (E Q : Value → Shared → Prop),
  Room r A → Ok B Φ α σ s.heap → Nm B Φ α env Γ s.heap → wfE m env.scope.names e = true → GoE B Φ α σ' d s Q → wpAny (model B.prog B.w) A (eval e env) Q E s
noncomputable def SndEs : Prop := ∀ (Γ : Ctx) (es : List Expr) (σ : Store) (ds : List D) (σ' : Store), evEs n F Γ es σ = some (ds, σ') → ∀ (m : Nat) (A : Around) (env : Env) (Φ : PH) (α : List Addr) (s : Shared) (E : Value → Shared → Prop) (Q : List Value → Shared → Prop),
  Room r A → Ok B Φ α σ s.heap → Nm B Φ α env Γ s.heap → es.all (wfE m env.scope.names) = true → GoEs B Φ α σ' ds s Q → ∀ pos, wpAny (model B.prog B.w) A (spliced (backTo pos (starEach es env))) Q E s
noncomputable def SndO : Prop := ∀ (Γ : Ctx) (eo : Option Expr) (σ : Store) (i : Option Int) (σ' : Store), evO n F Γ eo σ = some (i, σ') → ∀ (m : Nat) (A : Around) (env : Env) (Φ : PH) (α : List Addr) (s : Shared) (E : Value → Shared → Prop) (Q : Value → Shared → Prop),
  Room r A → Ok B Φ α σ s.heap → Nm B Φ α env Γ s.heap → eo.all (wfE m env.scope.names) = true → (∀ v h' tk Φ', Chg (· ∈ α) Φ Φ' s.heap h' → Ok B Φ' α σ' h' → IsPart v i → Q v { s with heap := h', toks := tk }) →
  wpAny (model B.prog B.w) A (valueOrNone (evalOpt eo env)) Q E s
noncomputable def SndV : Prop := ∀ (Γ : Ctx) (op : BoolOp) (es : List Expr) (σ : Store) (d : D) (σ' : Store), evV n F Γ op es σ = some (d, σ') → ∀ (m : Nat) (A : Around) (env : Env) (Φ : PH) (α : List Addr) (s : Shared) (E : Value → Shared → Prop) (Q : Value → Shared → Prop),
  Room r A → Ok B Φ α σ s.heap → Nm B Φ α env Γ s.heap → es.all (wfE m env.scope.names) = true → GoE B Φ α σ' d s Q → ∀ pos, wpAny (model B.prog B.w) A (boolOp pos op (evalEach es env)) Q E s
noncomputable def SndT : Prop := ∀ (Γ : Ctx) (e : Expr) (σ : Store) (b : Bool) (σ' : Store), evT n F Γ e σ = some (b, σ') → ∀ (m : Nat) (A : Around) (env : Env) (Φ : PH) (α : List Addr) (s : Shared) (E : Value → Shared → Prop) (Q : Bool → Shared → Prop),
  Room r A → Ok B Φ α σ s.heap → Nm B Φ α env Γ s.heap → wfE m env.scope.names e = true → GoT B Φ α σ' b s Q → wpAny (model B.prog B.w) A (isTrue e env (eval e env)) Q E s
noncomputable def SndB : Prop := ∀ (Γ : Ctx) (op : BoolOp) (es : List Expr) (σ : Store) (b : Bool) (σ' : Store), evB n F Γ op es σ = some (b, σ') → ∀ (m : Nat) (A : Around) (env : Env) (Φ : PH) (α : List Addr) (s : Shared) (E : Value → Shared → Prop) (Q : Bool → Shared → Prop),
  Room r A → Ok B Φ α σ s.heap → Nm B Φ α env Γ s.heap → es.all (wfE m env.scope.names) = true → GoT B Φ α σ' b s Q → wpAny (model B.prog B.w) A (allTrue op es env) Q E s
end

theorem not_star {m : Nat} {nm : Names} {e : Expr} (h : wfE m nm e = true) : ∀ t p, e ≠ .Starred t p := by
  rintro t p rfl
  cases m <;> exact no h
theorem starEach_cons {e : Expr} {r : List Expr} {env : Env} (h : ∀ t p, e ≠ .Starred t p) : starEach (e :: r) env = (false, eval e env) :: starEach r env := by
  cases e <;> first | rfl | exact absurd rfl (h _ _)
theorem no_marks {m : Nat} {nm : Names} {e : Expr} {op : CmpOp} (h : wfE m nm e = true) : behindInMarks op e = false := by
  cases e <;> first | rfl | (cases m <;> exact no h)
theorem no_fold {m : Nat} {nm : Names} {e : Expr} (h : wfE m nm e = true) (env : Env) (x : Value) : foldedSetIterable e env x = pure x := by
  cases e <;> first | rfl | (cases m <;> exact no h)

section
variable {B : Bs} {F : Fns} {r n : Nat}

theorem Room.units {A : Around} (h : Room r A) : A.units + 100 < cLine := by have := h.2.2; omega

theorem sndEs (hE : SndE B F r n) (hEs : SndEs B F r n) : SndEs B F r (n + 1) := by
  intro Γ es σ ds σ' e m A env Φ α s E Q hr o nm wf g pos
  cases es with
  | nil =>
    obtain ⟨rfl, rfl⟩ := psome (eEs_nil.symm.trans e)
    exact wpAny_pure (g [] s.heap s.toks Φ .refl o .nil)
  | cons x xs =>
    obtain ⟨⟨d1, σ1⟩, e1, e⟩ := bsome (eEs_cons.symm.trans e)
    obtain ⟨⟨d2, σ2⟩, e2, e3⟩ := bsome e
    obtain ⟨rfl, rfl⟩ := psome e3
    have wf := (Bool.and_eq_true_iff (x := wfE m env.scope.names x)).mp wf
    rw [starEach_cons (not_star wf.1)]
    show wpAny _ _ (spliced ((false, eval x env) :: backTo pos (starEach xs env))) _ _ _
    refine Calls.spliced_cons (hE _ _ _ _ _ e1 m A env Φ α s _ _ hr o nm wf.1 fun v h' tk Φ' c o' rv => ?_)
    refine hEs _ _ _ _ _ e2 m A env Φ' α _ _ _ hr o' (nm.chg c) wf.2 (fun vs h'' tk' Φ'' c' o'' rvs => ?_) pos
    exact g (v :: vs) h'' tk' Φ'' (c.trans c') o'' (.cons (rv.mono c'.mono) rvs)

theorem sndO (hE : SndE B F r n) : SndO B F r (n + 1) := by
  intro Γ eo σ i σ' e m A env Φ α s E Q hr o nm wf g
  cases eo with
  | none =>
    obtain ⟨rfl, rfl⟩ := psome (eO_none.symm.trans e)
    exact wpAny_pure (g .none s.heap s.toks Φ .refl o .none)
  | some x =>
    obtain ⟨⟨d, σ1⟩, e1, e2⟩ := bsome (eO_some.symm.trans e)
    cases d with
    | int z =>
      obtain ⟨rfl, rfl⟩ := psome e2
      refine hE _ _ _ _ _ e1 m A env Φ α s _ _ hr o nm wf fun v h' tk Φ' c o' rv => ?_
      obtain ⟨t, rfl⟩ := Rep.int_inv rv
      exact g _ h' tk Φ' c o' (.int _ _)
    | _ => exact nn e2

theorem truthy_b {b : Bool} {A : Around} {E : Value → Shared → Prop} {s : Shared} {Q : Bool → Shared → Prop} (h : Q b s) : wpAny (model B.prog B.w) A (truthy (.bool b)) Q E s := wpAny_truthy_bool h

theorem sndV (hE : SndE B F r n) (hV : SndV B F r n) : SndV B F r (n + 1) := by
  intro Γ op es σ d σ' e m A env Φ α s E Q hr o nm wf g pos
  rcases es with _ | ⟨x, _ | ⟨y, zs⟩⟩
  · exact nn e
  · exact hE _ _ _ _ _ (eV_one.symm.trans e) m A env Φ α s _ _ hr o nm ((Bool.and_eq_true_iff (x := wfE m env.scope.names x)).mp wf).1 g
  · have e' : ((evE n F Γ x σ).bind fun p => match op, p.1 with
      | .And, .bool false => some (.bool false, p.2)
      | .Or, .bool true => some (.bool true, p.2)
      | _, .bool _ => evV n F Γ op (y :: zs) p.2
      | _, _ => none) = some (d, σ') := e
    obtain ⟨⟨d1, σ1⟩, e1, e2⟩ := bsome e'
    have wf := (Bool.and_eq_true_iff (x := wfE m env.scope.names x)).mp wf
    show wpAny _ _ (eval x env >>= fun v => standAt pos >>= fun _ => holding [v] (truthy v) >>= fun t => match op, t with
      | .And, false | .Or, true => pure v
      | _, _ => boolOp pos op (evalEach (y :: zs) env)) _ _ _
    refine wpAny_bind (hE _ _ _ _ _ e1 m A env Φ α s _ _ hr o nm wf.1 fun v h' tk Φ' c o' rv => ?_)
    cases d1 with
    | bool b =>
      obtain rfl := Rep.bool_inv rv
      refine wpAny_bind (wpAny_standAt (wpAny_bind (wpAny_holding (truthy_b ?_))))
      have go : evV n F Γ op (y :: zs) σ1 = some (d, σ') → wpAny (model B.prog B.w) A (boolOp pos op (evalEach (y :: zs) env)) Q E { s with heap := h', toks := tk } := fun e3 =>
        hV _ _ _ _ _ _ e3 m A env Φ' α _ _ _ hr o' (nm.chg c) wf.2 (g.go c) pos
      cases op <;> cases b
      · obtain ⟨rfl, rfl⟩ := psome e2
        exact wpAny_pure (g _ h' tk Φ' c o' rv)
      · exact go e2
      · exact go e2
      · obtain ⟨rfl, rfl⟩ := psome e2
        exact wpAny_pure (g _ h' tk Φ' c o' rv)
    | _ => cases op <;> exact nn e2

theorem sndB (hT : SndT B F r n) (hB : SndB B F r n) : SndB B F r (n + 1) := by
  intro Γ op es σ b σ' e m A env Φ α s E Q hr o nm wf g
  cases es with
  | nil =>
    obtain ⟨rfl, rfl⟩ := psome (eB_nil.symm.trans e)
    exact wpAny_pure (g s.heap s.toks Φ .refl o)
  | cons x xs =>
    obtain ⟨⟨b1, σ1⟩, e1, e2⟩ := bsome (eB_cons.symm.trans e)
    have wf := (Bool.and_eq_true_iff (x := wfE m env.scope.names x)).mp wf
    show wpAny _ _ (isTrue x env (eval x env) >>= fun t => match op, t with
      | .And, false => pure false
      | .Or, true => pure true
      | _, _ => allTrue op xs env) _ _ _
    refine wpAny_bind (hT _ _ _ _ _ e1 m A env Φ α s _ _ hr o nm wf.1 fun h' tk Φ' c o' => ?_)
    have go : evB n F Γ op xs σ1 = some (b, σ') → wpAny (model B.prog B.w) A (allTrue op xs env) Q E { s with heap := h', toks := tk } := fun e3 =>
      hB _ _ _ _ _ _ e3 m A env Φ' α _ _ _ hr o' (nm.chg c) wf.2 (g.go c)
    cases op <;> cases b1
    · obtain ⟨rfl, rfl⟩ := psome e2
      exact wpAny_pure (g h' tk Φ' c o')
    · exact go e2
    · exact go e2
    · obtain ⟨rfl, rfl⟩ := psome e2
      exact wpAny_pure (g h' tk Φ' c o')

theorem cmp_go {op : CmpOp} {a b : D} {v u : Value} {q : Bool} {A : Around} {Φ : PH} {α : List Addr} {σ : Store} {s : Shared} {E Q : Value → Shared → Prop} (hr : Room r A) (o : Ok B Φ α σ s.heap) (ra : RepV B.w Φ α v a) (rb : RepV B.w Φ α u b)
    (e : cmpD σ op a b = some q) (h : ∀ tk, Q (.bool q) { s with toks := tk }) : wpAny (model B.prog B.w) A (compareOp op v u) Q E s := by
  obtain ⟨a', ea, e⟩ := bsome e
  obtain ⟨b', eb, e⟩ := bsome e
  obtain ⟨h1, h2, _⟩ := o.deref ra ea
  obtain ⟨h3, _, _⟩ := o.deref rb eb
  exact cmp_at o.seen h1 h3 h2 e (by have := hr.units; omega) h

theorem sndT (hE : SndE B F r n) (hB : SndB B F r n) : SndT B F r (n + 1) := by
  intro Γ e σ b σ' ee m A env Φ α s E Q hr o nm wf g
  cases e with
  | Compare l ops rs p =>
    rcases ops with _ | ⟨op, _ | ⟨op', ops⟩⟩
    · exact nn ee
    · rcases rs with _ | ⟨rr, _ | ⟨r', rs⟩⟩
      · exact nn ee
      · obtain ⟨⟨d1, σ1⟩, e1, ee⟩ := bsome (eT_cmp.symm.trans ee)
        obtain ⟨⟨d2, σ2⟩, e2, ee⟩ := bsome ee
        obtain ⟨c, e3, e4⟩ := msome ee
        obtain ⟨rfl, rfl⟩ := Prod.mk.inj e4
        cases m with
        | zero => exact no wf
        | succ m =>
          have wf := (Bool.and_eq_true_iff (x := wfE m env.scope.names l)).mp wf
          have w2 : wfE m env.scope.names rr = true := (Bool.and_eq_true_iff.mp wf.2).1
          refine wpAny_isTrue_Compare1 (hE _ _ _ _ _ e1 m A env Φ α s _ _ hr o nm wf.1 fun v h' tk Φ' c1 o1 rv => ?_) (no_marks w2)
          refine hE _ _ _ _ _ e2 m A env Φ' α _ _ _ hr o1 (nm.chg c1) w2 fun u h'' tk' Φ'' c2 o2 ru => ?_
          exact cmp_go hr o2 (rv.mono c2.mono) ru e3 fun tk'' => truthy_b (g h'' _ Φ'' (c1.trans c2) o2)
      · exact nn ee
    · exact nn ee
  | BoolOp op es p =>
    cases m with
    | zero => exact no wf
    | succ m => exact wpAny_isTrue_BoolOp (hB _ _ _ _ _ _ (eT_bool.symm.trans ee) m A env Φ α s _ _ hr o nm wf g)
  | _ => exact nn ee
end
end Mine

-- SnK
namespace Mine
open PySem PySem.SeqAt PySem.MeetsSeq
set_option linter.unusedSectionVars false
set_option linter.unusedSimpArgs false
set_option linter.unusedVariables false

section
variable {B : Bs} {Φ Φ' : PH} {α : List Addr} {σ σ' : Store} {h h' : Heap} {env : Env} {Γ Γ' : Ctx}

/-- a step outside α keeps the store -/
theorem Ok.out {X : Addr → Prop} (o : Ok B Φ α σ h) (c : Chg X Φ Φ' h h') (hs : Seen Φ' h') (hX : ∀ a ∈ α, ¬ X a) : Ok B Φ' α σ h' :=
  ⟨fun a x e => c.mono a x (o.base a x e), hs, o.len, o.nodup, fun a ha => let ⟨x, hx⟩ := o.live a ha; ⟨x, c.keep a x (hX a ha) hx⟩,
    fun k a d ha hd => (o.cell k a d ha hd).imp id fun ⟨hd', x, hx, hn, hs', ct⟩ => have hm : a ∈ α := List.mem_iff_getElem?.mpr ⟨k, ha⟩; ⟨hd', x, c.keep a x (hX a hm) hx, (c.new a x (hX a hm) hx).trans hn, hs', ct.mono c.mono⟩⟩
theorem Nm.weak (n : Nm B Φ α env Γ h) (w : ∀ x d, Γ' x = some d → Γ x = some d) : Nm B Φ α env Γ' h where
  kind := n.kind
  glob := n.glob
  bltn := n.bltn
  loc := let ⟨m, a, f⟩ := n.loc; ⟨m, a, fun x d k e => f x d k (w x d e)⟩
  locΦ := n.locΦ
  locα := n.locα
  cell := fun x k a b => let ⟨c, v, q1, q2, q3, q4, q5, q6⟩ := n.cell x k a b; ⟨c, v, q1, q2, q3, q4, q5, fun d e => q6 d (w x d e)⟩
  apart := n.apart
  glo := fun x d k e => n.glo x d k (w x d e)
end

theorem isCell_ne_lst {h : Heap} {a : Addr} {v : Option Value} {vs : List Value} {n : Nat} (x : h.IsCell a v) (y : h.get? a = some (lstO vs n)) : False := by
  obtain ⟨o, ho, hd⟩ := x
  rw [y] at ho; cases ho; cases hd
theorem ns_ne_lst {h : Heap} {a : Addr} {m} {vs : List Value} {n : Nat} (x : h.Ns a m) (y : h.get? a = some (lstO vs n)) : False := by
  obtain ⟨o, es, ep, ho, hd, _⟩ := x
  rw [y] at ho; cases ho; cases hd

/-- the list that a comprehension fills -/
noncomputable def Acc (B : Bs) (Φ : PH) (a : Addr) (ds : List D) (h : Heap) : Prop := ∃ vs n, h.get? a = some (lstO vs n) ∧ RepL B.w Φ vs ds

/-- an address that is neither a place of the frame's names nor a loc nor frozen -/
structure Apart (Φ : PH) (α : List Addr) (env : Env) (a : Addr) : Prop where
  fr : Φ a = none
  al : a ∉ α
  lo : a ≠ env.locals
  ce : ∀ x k c, env.kindOf x = some k → k = .cell ∨ k = .free → env.cells.lookup x = some c → c ≠ a

noncomputable def SrcOk (p : D) (q : Option Addr) (α : List Addr) (σ : Store) (items : List D) : Prop := ∀ a, q = some a → ∃ k, p = .loc k ∧ α[k]? = some a ∧ σ[k]? = some (.lst items)

theorem SrcOk.same {p : D} {q : Option Addr} {α : List Addr} {σ σ' : Store} {items : List D} (x : SrcOk p q α σ items) (e : sameAt p σ σ' = true) : SrcOk p q α σ' items := fun a ha => by
  obtain ⟨k, rfl, h1, h2⟩ := x a ha
  refine ⟨k, rfl, h1, ?_⟩
  have e : (match σ[k]?, σ'[k]? with
    | some a, some b => beqD a b
    | _, _ => false) = true := e
  rw [h2] at e
  cases h3 : σ'[k]? with
  | none => rw [h3] at e; exact no e
  | some b => rw [h3] at e; rw [← eq_of_beqD e]

section
variable {B : Bs} {F : Fns} {r n : Nat} {A : Around} {E : Value → Shared → Prop} {s : Shared} {Φ : PH} {α : List Addr} {σ : Store}

theorem iter_start {v : Value} {p src : D} {items : List D} {Q : Value → Shared → Prop} (o : Ok B Φ α σ s.heap) (rv : RepV B.w Φ α v p) (ed : deref σ p = some src) (ei : itemsSrc p src = some items)
    (h : ∀ h' q, (∀ b o, s.heap.get? b = some o → h'.get? b = some o) → ItSt B.w Φ h' s.heap.objs.size items 0 q → SrcOk p q α σ items → (∀ b, b ≠ s.heap.objs.size → h'.get? b = s.heap.get? b) → Q (.ref s.heap.objs.size) { s with heap := h' }) : wpAny (model B.prog B.w) A (pyIter v) Q E s := by
  have keepP : ∀ (ob : Obj) b x, s.heap.get? b = some x → (s.heap.push ob).get? b = some x := fun ob b x e => Heap.get?_push_of_some _ e
  have otherP : ∀ (ob : Obj) b, b ≠ s.heap.objs.size → (s.heap.push ob).get? b = s.heap.get? b := fun ob b hb => Heap.get?_push_ne _ _ _ hb
  cases p with
  | loc k =>
    cases src with
    | lst l =>
      obtain rfl : l = items := by
        by_cases hq : l.length ≤ 1000
        · exact Option.some.inj ((if_pos hq).symm.trans ei)
        · exact nn ((if_neg hq).symm.trans ei)
      obtain ⟨a, ha, rfl⟩ := rv
      have hσ : σ[k]? = some (.lst l) := (deref_inv ed).1
      rcases o.cell k a _ ha hσ with q | ⟨_, x, hx, _, _, c⟩
      · cases q
      · obtain ⟨vs, m, rfl, rl⟩ := c.lst_inv
        refine wpAny_pyIter_list (isList_of hx) (h _ (some a) (keepP _) (.loc ⟨_, Heap.get?_push_size _ rfl, rfl, rfl⟩ (keepP _ _ _ hx) (Nat.ne_of_lt (Heap.lt_size hx)) rl) ?_ (otherP _))
        intro a' ea
        cases ea
        exact ⟨k, rfl, ha, hσ⟩
    | _ => exact nn ei
  | tup l =>
    obtain rfl := Option.some.inj ed
    by_cases hq : l.length ≤ 1000
    · obtain rfl := Option.some.inj ((if_pos hq).symm.trans ei)
      obtain ⟨a, vs, m, rfl, ea, _, rl⟩ := Rep.tup_inv rv
      exact wpAny_pyIter_tuple (isTuple_of (o.seen _ _ ea)) (h _ none (keepP _) (.tup ⟨_, Heap.get?_push_size _ rfl, rfl, rfl⟩ ea rl) (fun a ha => by cases ha) (otherP _))
    · exact nn ((if_neg hq).symm.trans ei)
  | lst l =>
    obtain rfl := Option.some.inj ed
    by_cases hq : l.length ≤ 1000
    · obtain rfl := Option.some.inj ((if_pos hq).symm.trans ei)
      obtain ⟨a, vs, m, rfl, ea, _, rl⟩ := Rep.lst_inv rv
      exact wpAny_pyIter_list (isList_of (o.seen _ _ ea)) (h _ none (keepP _) (.list ⟨_, Heap.get?_push_size _ rfl, rfl, rfl⟩ ea rl) (fun a ha => by cases ha) (otherP _))
    · exact nn ((if_neg hq).symm.trans ei)
  | dct kvs =>
    obtain rfl := Option.some.inj ed
    by_cases hq : kvs.length ≤ 1000
    · obtain ⟨a, es, m, rfl, ea, hs, rk, _⟩ := Rep.dct_inv rv
      exact dctIter hs (o.seen _ _ ea) (h _ none (keepP _) (.dct ⟨_, Heap.get?_push_size _ rfl, rfl, rfl⟩ ea rk (Option.some.inj ((if_pos hq).symm.trans ei)).symm) (fun a ha => by cases ha) (otherP _))
    · exact nn ((if_neg hq).symm.trans ei)
  | rng z =>
    obtain rfl := Option.some.inj ed
    by_cases hz : 0 ≤ z ∧ z ≤ 1000
    · obtain rfl := Option.some.inj ((if_pos hz).symm.trans ei)
      obtain ⟨a, t, u, k, rfl, ea⟩ := Rep.rng_inv rv
      have hsm : Builtin.Range.small 0 z 1 = true := small_one (by decide) (by decide) (by omega) (by omega)
      refine wpAny_pyIter_range (o.seen _ _ ea) hsm (h _ none (keepP _) ?_ (fun a ha => by cases ha) (otherP _))
      refine .rng (n := z.toNat) ?_ rfl
      have hsz : Builtin.Range.rangeSize 0 z 1 = (z.toNat : Int) - ((0 : Nat) : Int) := by
        rw [rangeSize_one]; split <;> omega
      rw [hsz]
      exact Heap.get?_push_size _ rfl
    · exact nn ((if_neg hz).symm.trans ei)
  | nil => obtain rfl := Option.some.inj ed; exact nn ei
  | bool b => obtain rfl := Option.some.inj ed; exact nn ei
  | int b => obtain rfl := Option.some.inj ed; exact nn ei
  | str b => obtain rfl := Option.some.inj ed; exact nn ei
end
end Mine

-- SnL
namespace Mine
open PySem PySem.SeqAt PySem.MeetsSeq
set_option linter.unusedSectionVars false
set_option linter.unusedSimpArgs false
set_option linter.unusedVariables false

noncomputable def SndI (B : Bs) (F : Fns) (r n : Nat) : Prop := ∀ (Γ : Ctx) (ifs : List Expr) (σ : Store) (b : Bool) (σ' : Store), evB n F Γ .And ifs σ = some (b, σ') → ∀ (m : Nat) (A : Around) (env : Env) (Φ : PH) (α : List Addr) (s : Shared) (E : Value → Shared → Prop) (Q : Bool → Shared → Prop),
  Room r A → Ok B Φ α σ s.heap → Nm B Φ α env Γ s.heap → ifs.all (wfE m env.scope.names) = true → GoT B Φ α σ' b s Q →
  wpAny (model B.prog B.w) A (forIn ifs true fun c r => if r = true then do let ok ← isTrue c env (eval c env); pure (ForInStep.yield ok) else pure (ForInStep.yield r)) Q E s

theorem forIn_false (ifs : List Expr) (f : Expr → Sem Bool) : (forIn ifs false fun c r => if r = true then do let ok ← f c; pure (ForInStep.yield ok) else pure (ForInStep.yield r) : Sem Bool) = pure false := by
  induction ifs with
  | nil => rfl
  | cons x xs ih =>
    rw [List.forIn_cons]
    simp only [Bool.false_eq_true, if_false, pure_bind]
    exact ih

section
variable {B : Bs} {F : Fns} {r n : Nat}

theorem sndI (hT : SndT B F r n) (hI : SndI B F r n) : SndI B F r (n + 1) := by
  intro Γ ifs σ b σ' e m A env Φ α s E Q hr o nm wf g
  cases ifs with
  | nil =>
    obtain ⟨rfl, rfl⟩ := psome (eB_nil.symm.trans e)
    rw [List.forIn_nil]
    exact wpAny_pure (g s.heap s.toks Φ .refl o)
  | cons x xs =>
    obtain ⟨⟨b1, σ1⟩, e1, e2⟩ := bsome (eB_cons.symm.trans e)
    have wf := (Bool.and_eq_true_iff (x := wfE m env.scope.names x)).mp wf
    rw [List.forIn_cons]
    simp only [if_true]
    refine wpAny_bind (wpAny_bind (hT _ _ _ _ _ e1 m A env Φ α s _ _ hr o nm wf.1 fun h' tk Φ' c o' => wpAny_pure ?_))
    cases b1
    · obtain ⟨rfl, rfl⟩ := psome e2
      exact wpAny_of_eq (forIn_false xs fun c => isTrue c env (eval c env)) (g h' tk Φ' c o')
    · exact hI _ _ _ _ _ e2 m A env Φ' α _ _ _ hr o' (nm.chg c) wf.2 (g.go c)
end

/-- what a turn of a comprehension does with an item that is let through -/
noncomputable def restGo (e : Expr) (elt : Expr) (g? : Option Comprehension) (k : Nat) (acc : Value) (env : Env) : Sem Unit := match g? with
  | some g' => do
      let x ← eval g'.iter env
      standAt g'.iter.pos
      let x ← foldedSetIterable g'.iter env x
      let _ ← runOwn (.compStart e (k + 1) (← holding [x] (pyIter x)) acc env) env
  | none => do let _ ← call (.builtin "list.append") [acc, ← eval elt env]

theorem compTurn_at {elt t itx : Expr} {ifs : List Expr} {G : List Comprehension} {sc : Scope} {pos : Pos} {k : Nat} {itv acc : Value} {env : Env} (hg : G[k]? = some ⟨t, itx, ifs, 0⟩) (ha : ∀ g', G[k + 1]? = some g' → g'.is_async = 0) :
    compTurn (.ListComp elt G sc pos) k itv acc env = (standAt itx.pos >>= fun _ => pyNext itv >>= fun r => match r with
      | none => pure (.done .next)
      | some v => letOwnedTupleGo t itv v >>= fun _ => assign t env v >>= fun _ =>
        (forIn ifs true fun c r => if r = true then do let ok ← isTrue c env (eval c env); pure (ForInStep.yield ok) else pure (ForInStep.yield r)) >>= fun ok =>
          if ok = true then restGo (.ListComp elt G sc pos) elt G[k + 1]? k acc env >>= fun _ => again (.compLoop (.ListComp elt G sc pos) k itv acc env)
          else again (.compLoop (.ListComp elt G sc pos) k itv acc env)) := by
  unfold compTurn restGo
  simp only [hg]
  cases hk : G[k + 1]? with
  | none => simp only [bind_assoc, pure_bind]; rfl
  | some g' =>
    have h0 := ha g' hk
    obtain ⟨t', it', ifs', a'⟩ := g'
    simp only at h0
    subst h0
    simp only [bind_assoc, pure_bind]
    rfl
end Mine

-- SnM
namespace Mine
open PySem PySem.SeqAt PySem.MeetsSeq
set_option linter.unusedSectionVars false
set_option linter.unusedSimpArgs false
set_option linter.unusedVariables false

section
variable {B : Bs} {Φ Φ' : PH} {α : List Addr} {σ σ' : Store} {h h' h0 : Heap} {env : Env} {Γ Γ' : Ctx}

theorem Nm.locAlive (n : Nm B Φ α env Γ h) : ∃ o, h.get? env.locals = some o := by
  obtain ⟨m, ⟨o, es, ep, ho, r⟩, f⟩ := n.loc
  exact ⟨o, ho⟩
theorem Apart.new (o : Ok B Φ α σ h) (n : Nm B Φ α env Γ h) {a : Addr} (ha : h.get? a = none) : Apart Φ α env a where
  fr := o.seen.none_of ha
  al := fun q => by obtain ⟨x, hx⟩ := o.live a q; rw [ha] at hx; cases hx
  lo := fun q => by obtain ⟨x, hx⟩ := n.locAlive; rw [← q, ha] at hx; cases hx
  ce := fun x k c hk hk' e q => by
    obtain ⟨c', v, h1, ⟨ob, hob, _⟩, _⟩ := n.cell x k hk hk'
    rw [e] at h1; cases h1
    rw [q, ha] at hob; cases hob
theorem Apart.step {X : Addr → Prop} {a : Addr} (x : Apart Φ α env a) (c : Chg X Φ Φ' h h') (hX : ¬ X a) {o : Obj} (ho : h.get? a = some o) : Apart Φ' α env a :=
  ⟨(c.new a o hX ho).trans x.fr, x.al, x.lo, x.ce⟩
theorem Apart.slot {a b : Addr} {x : Str} (q : Apart Φ α env a) (s : slotOf env x b) : b ≠ a := by
  rcases s with ⟨_, rfl⟩ | ⟨hk, e⟩
  · exact Ne.symm q.lo
  · exact q.ce x _ b hk (.inl rfl) e
theorem Acc.step {X : Addr → Prop} {a : Addr} {ds : List D} (x : Acc B Φ a ds h) (c : Chg X Φ Φ' h h') (hX : ¬ X a) : Acc B Φ' a ds h' :=
  let ⟨vs, n, e, r⟩ := x; ⟨vs, n, c.keep _ _ hX e, r.mono c.mono⟩
theorem Chg.fresh {X Y : Addr → Prop} {a : Addr} (hk : ∀ b o, h0.get? b = some o → h.get? b = some o) (ha : h0.get? a = none) (c : Chg Y Φ Φ' h h') (hY : ∀ b, Y b → X b ∨ b = a) : Chg X Φ Φ' h0 h' where
  keep := fun b o hb e => c.keep b o (fun q => (hY b q).elim hb fun q => by rw [q, ha] at e; cases e) (hk b o e)
  mono := c.mono
  new := fun b o hb e => c.new b o (fun q => (hY b q).elim hb fun q => by rw [q, ha] at e; cases e) (hk b o e)

noncomputable def slots (env : Env) (ts : List Str) (b : Addr) : Prop := ∃ t ∈ ts, slotOf env t b
noncomputable def XC (α : List Addr) (acc : Addr) (env : Env) (ts : List Str) (b : Addr) : Prop := b ∈ α ∨ b = acc ∨ slots env ts b

theorem XC.ne {acc a : Addr} {ts : List Str} (q : Apart Φ α env a) (hne : acc ≠ a) {b : Addr} (x : XC α acc env ts b) : b ≠ a := by
  rcases x with x | x | ⟨t, _, x⟩
  · rintro rfl; exact q.al x
  · rw [x]; exact hne
  · exact q.slot x
theorem XC.more {acc : Addr} {ts ts' : List Str} (hs : ∀ t ∈ ts, t ∈ ts') {b : Addr} (x : XC α acc env ts b) : XC α acc env ts' b := by
  rcases x with x | x | ⟨t, ht, x⟩
  · exact .inl x
  · exact .inr (.inl x)
  · exact .inr (.inr ⟨t, hs t ht, x⟩)

theorem SrcOk.list {p : D} {q : Option Addr} {items : List D} (x : SrcOk p q α σ items) (o : Ok B Φ α σ h) {a : Addr} (e : q = some a) : ∃ vs n, h.get? a = some (lstO vs n) ∧ RepL B.w Φ vs items := by
  obtain ⟨k, _, h1, h2⟩ := x a e
  rcases o.cell k a _ h1 h2 with q | ⟨_, ob, hob, _, _, c⟩
  · cases q
  · obtain ⟨vs, n, rfl, r⟩ := c.lst_inv
    exact ⟨vs, n, hob, r⟩
end

noncomputable def SndG (B : Bs) (F : Fns) (r n : Nat) : Prop := ∀ (Γ : Ctx) (elt : Expr) (gens : List Comprehension) (σ : Store) (ds : List D) (σ' : Store), evG n F Γ elt gens σ = some (ds, σ') →
  ∀ (m : Nat) (A : Around) (env : Env) (Φ : PH) (α : List Addr) (s : Shared) (E : Value → Shared → Prop) (Q : Unit → Shared → Prop) (G : List Comprehension) (k : Nat) (sc : Scope) (pos : Pos) (acc : Addr) (xs : List D),
  Room r A → Ok B Φ α σ s.heap → Nm B Φ α env Γ s.heap → G.drop (k + 1) = gens → (∀ g ∈ gens, wfGen (wfE m env.scope.names) env.scope.names g = true ∧ wfE m env.scope.names g.iter = true) → wfE m env.scope.names elt = true →
  Apart Φ α env acc → Acc B Φ acc xs s.heap → xs.length + ds.length ≤ 1000 → (∀ t ∈ gens.filterMap targetOf, Γ t = none) → (gens.filterMap targetOf).Nodup →
  (∀ h' tk Φ', Chg (XC α acc env (gens.filterMap targetOf)) Φ Φ' s.heap h' → Ok B Φ' α σ' h' → Nm B Φ' α env Γ h' → Apart Φ' α env acc → Acc B Φ' acc (xs ++ ds) h' → Q () { s with heap := h', toks := tk }) →
  wpAny (model B.prog B.w) A (restGo (.ListComp elt G sc pos) elt G[k + 1]? k (.ref acc) env) Q E s

theorem codeAny_compStart_at {prog : Program} {w : World} {A : Around} {R : Result → Shared → Prop} {s : Shared} {elt t itx : Expr} {ifs : List Expr} {G : List Comprehension} {sc : Scope} {pos : Pos} {k : Nat} {it acc : Value} {env : Env}
    (hg : G[k]? = some ⟨t, itx, ifs, 0⟩)
    (h0 : codeAny (model prog w) A (.compLoop (.ListComp elt G sc pos) k it acc env) R s)
    (h : wpAny (model prog w) A (pyIter it) (fun it' s' => codeAny (model prog w) A (.compLoop (.ListComp elt G sc pos) k it' acc env) R s')
      (notedBy (model prog w) A env fun x s' => R (.error x) s') s) :
    codeAny (model prog w) A (.compStart (.ListComp elt G sc pos) k it acc env) R s := by
  refine codeAny_of_tree ?_
  show wpAny _ _ ((compStart (.ListComp elt G sc pos) k it acc env).onRaise (fun x => do noteFrame x env; standAt theWindowsPlace)) _ _ s
  refine wpAny_notedAt ?_
  unfold compStart
  simp only [show clausesOf (Expr.ListComp elt G sc pos) = G from rfl, hg, Option.elim_some, bne_self_eq_false, Bool.false_eq_true, if_false]
  first
    | refine wpAny_bind (wpAny_askSetting (wpAny_ite ?_))
    | (show wpAny _ _ (ask >>= _) _ _ s; refine wpAny_bind (wpAny_askSetting (wpAny_ite ?_)))
  split
  · first
      | exact wpAny_bind (wpAny_pure (wpAny_pure (And.intro rfl h0)))
      | exact wpAny_pure (And.intro rfl h0)
  · refine wpAny_bind (wpAny_rule ?_)
    first
      | exact wpAny_bind (wpAny_standAt (wpAny_bind (wpAny_mono h (fun it' s' h' => wpAny_pure (And.intro rfl h')) fun _ _ x => x)))
      | (show wpAny _ _ (standAt itx.pos >>= _) _ _ s; exact wpAny_bind (wpAny_standAt (wpAny_bind (wpAny_mono h (fun it' s' h' => wpAny_pure (And.intro rfl h')) fun _ _ x => x))))

section
variable {B : Bs} {F : Fns} {r n : Nat}

theorem comp_loop (hI : SndI B F r n) (hG : SndG B F r n) {elt itx : Expr} {x : Str} {px : Pos} {ifs : List Expr} {G gs : List Comprehension} {sc : Scope} {pos : Pos} {k : Nat} {p : D} {q : Option Addr} {items : List D} {Γ : Ctx} {m : Nat}
    {A : Around} {env : Env} {α : List Addr} {it acc : Addr} {R : Result → Shared → Prop} (hr : Room r A) (hg : G[k]? = some ⟨.Name x px, itx, ifs, 0⟩) (hgs : G.drop (k + 1) = gs)
    (hx : env.kindOf x = some .local ∨ env.kindOf x = some .cell) (hifs : ifs.all (wfE m env.scope.names) = true)
    (hwf : ∀ g ∈ gs, wfGen (wfE m env.scope.names) env.scope.names g = true ∧ wfE m env.scope.names g.iter = true) (helt : wfE m env.scope.names elt = true) (hΓ : ∀ t ∈ x :: gs.filterMap targetOf, Γ t = none) (hnd : (x :: gs.filterMap targetOf).Nodup)
    (hne : acc ≠ it) (hgsa : ∀ g' ∈ gs, g'.is_async = 0) :
    ∀ (rem done : List D) (xs ds : List D) (σ σ' : Store) (Φ : PH) (s : Shared), compL p (fun d σ => (assignT (.Name x px) d Γ).bind fun Γ1 => (evB n F Γ1 .And ifs σ).bind fun q => if q.1 then evG n F Γ1 elt gs q.2 else some ([], q.2)) rem σ = some (ds, σ') →
      items = done ++ rem → Ok B Φ α σ s.heap → Nm B Φ α env Γ s.heap → Apart Φ α env acc → Apart Φ α env it → Acc B Φ acc xs s.heap → xs.length + ds.length ≤ 1000 →
      ItSt B.w Φ s.heap it items done.length q → SrcOk p q α σ items →
      (∀ h' tk Φ', Chg (fun b => XC α acc env (x :: gs.filterMap targetOf) b ∨ b = it) Φ Φ' s.heap h' → Ok B Φ' α σ' h' → Nm B Φ' α env Γ h' → Apart Φ' α env acc → Acc B Φ' acc (xs ++ ds) h' → R (.ok .next) { s with heap := h', toks := tk }) →
      codeAny (model B.prog B.w) A (.compLoop (.ListComp elt G sc pos) k (.ref it) (.ref acc) env) R s := by
  have hasync : ∀ g', G[k + 1]? = some g' → g'.is_async = 0 := fun g' e => hgsa g' (by
    rw [← hgs]
    exact List.mem_iff_getElem?.mpr ⟨0, by rw [List.getElem?_drop]; simpa using e⟩)
  intro rem
  induction rem with
  | nil =>
    intro done xs ds σ σ' Φ s ev hitems o nm hacc hit ac hlen st so h
    obtain ⟨rfl, rfl⟩ := psome (a := ([] : List D)) ev
    rw [List.append_nil] at hitems
    subst hitems
    refine codeAny_of_tree ?_
    show wpAny _ _ ((compTurn (.ListComp elt G sc pos) k (.ref it) (.ref acc) env).onRaise (fun x => do noteFrame x env; theTreesLotGoes x)) _ _ s
    refine wpAny_noted ?_
    rw [compTurn_at hg hasync]
    refine wpAny_bind (wpAny_standAt (wpAny_bind (st.stop o.seen hit.fr hr.1 fun h' hx => wpAny_pure ?_)))
    have c : Chg (fun b => b = it) Φ Φ s.heap h' := Chg.ext hx rfl
    refine h h' s.toks Φ (c.weak fun b e => .inr e) (o.out c (o.seen.ext hx hit.fr) fun a ha e => hit.al (e ▸ ha)) (nm.step c (Ne.symm hit.lo) fun y kd a h1 h2 h3 => hit.ce y kd a h1 h2 h3) hacc ?_
    rw [List.append_nil]
    exact ac.step c hne
  | cons d rem ih =>
    intro done xs ds σ σ' Φ s ev hitems o nm hacc hit ac hlen st so h
    obtain ⟨rd, σ1, rs, e1, hsame, e2, rfl⟩ := compL_inv ev
    obtain ⟨Γ1, e0, e1⟩ := bsome e1
    obtain rfl := Option.some.inj e0
    obtain ⟨⟨ok, σa⟩, e1, e3⟩ := bsome e1
    have hd : items[done.length]? = some d := by rw [hitems]; simp
    refine codeAny_of_tree ?_
    show wpAny _ _ ((compTurn (.ListComp elt G sc pos) k (.ref it) (.ref acc) env).onRaise (fun x => do noteFrame x env; theTreesLotGoes x)) _ _ s
    refine wpAny_noted ?_
    rw [compTurn_at hg hasync]
    refine wpAny_bind (wpAny_standAt (wpAny_bind (st.next o.seen hit.fr hd fun v h1 tk1 rv st1 hs1 => ?_)))
    have c1 : Chg (fun b => b = it) Φ Φ s.heap h1 := Chg.ext hs1.extBut rfl
    have o1 : Ok B Φ α σ h1 := o.out c1 (o.seen.ext hs1.extBut hit.fr) fun a ha e => hit.al (e ▸ ha)
    have n1 : Nm B Φ α env Γ h1 := nm.step c1 (Ne.symm hit.lo) fun y kd a q1 q2 q3 => hit.ce y kd a q1 q2 q3
    have ac1 : Acc B Φ acc xs h1 := ac.step c1 hne
    have itA : ∃ ob, h1.get? it = some ob := st1.alive (s := { s with heap := h1 })
    refine wpAny_bind (st1.letGo (s := { s with heap := h1, toks := tk1 }) (wpAny_bind ?_))
    refine assign_name (s := { s with heap := h1, toks := tk1 }) o1 n1 hx (d := d) rv.repV fun h2 tk2 c2 o2 n2 => ?_
    have c2' : Chg (slotOf env x) Φ Φ h1 h2 := c2
    have ac2 : Acc B Φ acc xs h2 := ac1.step c2' fun q => hacc.slot q rfl
    obtain ⟨oi, hoi⟩ := itA
    have hoi2 : h2.get? it = some oi := c2'.keep _ _ (fun q => hit.slot q rfl) hoi
    obtain ⟨ova, hoa⟩ : ∃ ob, h2.get? acc = some ob := let ⟨_, _, e, _⟩ := ac2; ⟨_, e⟩
    refine wpAny_bind (hI _ _ _ _ _ e1 m A env Φ α { s with heap := h2, toks := tk2 } _ _ hr o2 n2 hifs fun h3 tk3 Φ3 c3 o3 => ?_)
    have c3' : Chg (· ∈ α) Φ Φ3 h2 h3 := c3
    have n3 : Nm B Φ3 α env (upd Γ x d) h3 := n2.chg c3'
    have hacc3 : Apart Φ3 α env acc := hacc.step c3' hacc.al hoa
    have hit3 : Apart Φ3 α env it := hit.step c3' hit.al hoi2
    have ac3 : Acc B Φ3 acc xs h3 := ac2.step c3' hacc.al
    have hoi3 := c3'.keep _ _ hit.al hoi2
    have hoa3 := c3'.keep _ _ hacc.al hoa
    have c123 : Chg (fun b => XC α acc env (x :: gs.filterMap targetOf) b ∨ b = it) Φ Φ3 s.heap h3 :=
      ((c1.weak fun b e => .inr e).trans (c2'.weak fun b e => .inl (.inr (.inr ⟨x, List.mem_cons_self, e⟩)))).trans (c3'.weak fun b e => .inl (.inl e))
    -- what comes behind the item
    have next : ∀ (h4 : Heap) (tk4 : Nat) (Φ4 : PH), Chg (XC α acc env (gs.filterMap targetOf)) Φ3 Φ4 h3 h4 → Ok B Φ4 α σ1 h4 → Nm B Φ4 α env (upd Γ x d) h4 → Apart Φ4 α env acc → Acc B Φ4 acc (xs ++ rd) h4 →
        codeAny (model B.prog B.w) A (.compLoop (.ListComp elt G sc pos) k (.ref it) (.ref acc) env) R { s with heap := h4, toks := tk4 } := by
      intro h4 tk4 Φ4 c4 o4 n4 hacc4 ac4
      have hni : ¬ XC α acc env (gs.filterMap targetOf) it := fun q => XC.ne hit3 hne q rfl
      have so4 : SrcOk p q α σ1 items := so.same hsame
      have cAll : Chg (fun b => XC α acc env (x :: gs.filterMap targetOf) b ∨ b = it) Φ Φ4 s.heap h4 := c123.trans (c4.weak fun b e => .inl (e.more fun t ht => List.mem_cons_of_mem _ ht))
      have st4 : ItSt B.w Φ4 h4 it items (done.length + 1) q := by
        refine st1.carry (s := { s with heap := h1 }) (fun a ob e => c4.mono _ _ (c3'.mono _ _ e)) (fun ob e => ?_) fun a e => so4.list o4 e
        exact c4.keep _ _ hni (c3'.keep _ _ hit.al (c2'.keep _ _ (fun q => hit.slot q rfl) e))
      refine ih (done ++ [d]) (xs ++ rd) rs σ1 σ' Φ4 _ e2 (by rw [hitems]; simp) o4 (n4.weak fun y dy e => ?_) hacc4 (hit3.step c4 hni hoi3) ac4 (by simp only [List.length_append] at hlen ⊢; omega) (by simpa using st4) so4 ?_
      · have hy : y ≠ x := by rintro rfl; rw [hΓ y List.mem_cons_self] at e; cases e
        simpa [upd, hy] using e
      · intro h5 tk5 Φ5 c5 o5 n5 ha5 ac5
        exact h h5 tk5 Φ5 (cAll.trans c5) o5 n5 ha5 (by rwa [List.append_assoc] at ac5)
    cases ok with
    | false =>
      simp only [Bool.false_eq_true, if_false, Option.some.injEq, Prod.mk.injEq] at e3
      obtain ⟨rfl, rfl⟩ := e3
      exact wpAny_pure ⟨rfl, next h3 tk3 Φ3 .refl o3 n3 hacc3 (by rw [List.append_nil]; exact ac3)⟩
    | true =>
      simp only [if_true] at e3
      refine wpAny_bind (hG _ _ _ _ _ _ e3 m A env Φ3 α _ _ _ G k sc pos acc xs hr o3 n3 hgs hwf helt hacc3 ac3 (by simp only [List.length_append] at hlen; omega) (fun t ht => ?_) (List.nodup_cons.mp hnd).2 fun h4 tk4 Φ4 c4 o4 n4 ha4 ac4 => wpAny_pure ⟨rfl, next h4 tk4 Φ4 c4 o4 n4 ha4 ac4⟩)
      have hy : t ≠ x := fun q => (List.nodup_cons.mp hnd).1 (q ▸ ht)
      simp only [upd, hy, if_false]
      exact hΓ t (List.mem_cons_of_mem _ ht)
end
end Mine

-- SnN
namespace Mine
open PySem PySem.SeqAt PySem.MeetsSeq
set_option linter.unusedSectionVars false
set_option linter.unusedSimpArgs false
set_option linter.unusedVariables false

theorem okTarget_kind {env : Env} {x : Str} (h : okTarget env.scope.names x = true) : env.kindOf x = some .local ∨ env.kindOf x = some .cell := by
  have h : (match env.kindOf x with
    | some .local => true
    | some .cell => true
    | _ => false) = true := h
  cases hk : env.kindOf x with
  | none => rw [hk] at h; exact no h
  | some k =>
    rw [hk] at h
    cases k with
    | «local» => exact .inl rfl
    | cell => exact .inr rfl
    | _ => exact no h

theorem wfGen_shape {f : Expr → Bool} {inner : Names} {g : Comprehension} (h : wfGen f inner g = true) : ∃ x px, g = ⟨.Name x px, g.iter, g.ifs, 0⟩ ∧ targetOf g = some x ∧ okTarget inner x = true ∧ g.ifs.all f = true := by
  obtain ⟨t, it, ifs, a⟩ := g
  obtain ⟨h12, h3⟩ := Bool.and_eq_true_iff.mp h
  obtain ⟨h1, h2⟩ := Bool.and_eq_true_iff.mp h12
  have h3 := beq_iff_eq.mp h3
  subst h3
  obtain ⟨x, px, rfl, h4⟩ := okNameT_of h1
  exact ⟨_, _, rfl, rfl, h4, h2⟩

section
variable {B : Bs} {F : Fns} {r n : Nat}

theorem sndG (hE : SndE B F r n) (hI : SndI B F r n) (hG : SndG B F r n) : SndG B F r (n + 1) := by
  intro Γ elt gens σ ds σ' ev m A env Φ α s E Q G k sc pos acc xs hr o nm hd hwf helt hacc ac hlen hΓ hnd h
  cases gens with
  | nil =>
    have hk : G[k + 1]? = none := by
      have := congrArg List.length hd
      rw [List.length_drop, List.length_nil] at this
      exact List.getElem?_eq_none (by omega)
    rw [hk]
    obtain ⟨⟨d, σ1⟩, e1, e2⟩ := bsome (eG_nil.symm.trans ev)
    by_cases hloc : d.isLoc = true
    · exact nn ((if_pos hloc).symm.trans e2)
    · obtain ⟨rfl, rfl⟩ := psome ((if_neg hloc).symm.trans e2)
      refine wpAny_bind (hE _ _ _ _ _ e1 m A env Φ α s _ _ hr o nm helt fun v h1 tk1 Φ1 c1 o1 rv => ?_)
      have hv : Rep B.w Φ1 v d := rv.rep (by simpa using hloc)
      obtain ⟨vs, nn, hget, rl⟩ := ac
      have hget1 := c1.keep _ _ hacc.al hget
      have hacc1 := hacc.step c1 hacc.al hget
      refine wpAny_bind (wpAny_list_append_plain (items := vs.toArray) ⟨nn, hget1⟩ (fun h2 hp hs2 => wpAny_pure ?_) (by simp only [List.size_toArray, rl.length]; have := lines1000; omega))
      have c2 : Chg (fun b => b = acc) Φ1 Φ1 h1 h2 := Chg.ext hs2.extBut rfl
      refine h h2 tk1 Φ1 ((c1.weak fun b e => .inl e).trans (c2.weak fun b e => .inr (.inl e))) (o1.out c2 (o1.seen.ext hs2.extBut hacc1.fr) fun a ha e => hacc1.al (e ▸ ha)) ((nm.chg c1).step c2 (Ne.symm hacc1.lo) fun y kd a q1 q2 q3 => hacc1.ce y kd a q1 q2 q3) hacc1 ?_
      obtain ⟨n2, e2⟩ := hp
      exact ⟨vs ++ [v], n2, by rw [e2]; simp [lstO], (rl.mono c1.mono).append (.one hv)⟩
  | cons g gs =>
    obtain ⟨hw, hwi⟩ := hwf g List.mem_cons_self
    obtain ⟨x, px, hgE, htg, hok, hifs⟩ := wfGen_shape hw
    have hk : G[k + 1]? = some g := by
      have := congrArg (·[0]?) hd
      simpa [List.getElem?_drop] using this
    have hgs : G.drop (k + 1 + 1) = gs := by
      have := congrArg (List.drop 1) hd
      simpa [List.drop_drop] using this
    rw [hk]
    rw [List.filterMap_cons, htg] at hΓ hnd h
    simp only at hΓ hnd h
    have hk' : G[k + 1]? = some ⟨.Name x px, g.iter, g.ifs, 0⟩ := by rw [hk]; exact congrArg some hgE
    rw [hgE] at ev
    obtain ⟨⟨p, σ1⟩, e1, ev⟩ := bsome (eG_cons.symm.trans ev)
    obtain ⟨src, e2, ev⟩ := bsome ev
    obtain ⟨items, e3, e4⟩ := bsome ev
    show wpAny _ _ (eval g.iter env >>= fun y => standAt g.iter.pos >>= fun _ => foldedSetIterable g.iter env y >>= fun y => holding [y] (pyIter y) >>= fun z => runOwn (.compStart (.ListComp elt G sc pos) (k + 1) z (.ref acc) env) env >>= fun _ => pure ()) _ _ _
    refine wpAny_bind (hE _ _ _ _ _ e1 m A env Φ α s _ _ hr o nm hwi fun v h1 tk1 Φ1 c1 o1 rv => wpAny_bind (wpAny_standAt (wpAny_bind ?_)))
    rw [no_fold hwi]
    refine wpAny_pure (wpAny_bind (wpAny_holding ?_))
    have n1 := nm.chg c1
    obtain ⟨vs, nn, hget, rl⟩ := id ac
    have hacc1 := hacc.step c1 hacc.al hget
    have ac1 := ac.step c1 hacc.al
    refine iter_start (s := { s with heap := h1, toks := tk1 }) o1 rv e2 e3 fun h2 q hk2 st so hsame => ?_
    have hfr : h1.get? h1.objs.size = none := fresh_none h1
    have c2 : ∀ {X : Addr → Prop}, Chg X Φ1 Φ1 h1 h2 := ⟨fun _ _ _ e => hk2 _ _ e, fun _ _ e => e, fun _ _ _ _ => rfl⟩
    have s2 : Seen Φ1 h2 := fun a ob e => hk2 _ _ (o1.seen a ob e)
    have o2 : Ok B Φ1 α σ1 h2 := o1.makes c2 s2
    have n2 : Nm B Φ1 α env Γ h2 := n1.step (X := NoX) c2 id fun _ _ _ _ _ _ f => f
    have hit : Apart Φ1 α env h1.objs.size := Apart.new o1 n1 hfr
    have hne : acc ≠ h1.objs.size := by
      obtain ⟨_, _, e, _⟩ := ac1
      exact Nat.ne_of_lt (Heap.lt_size e)
    refine wpAny_bind (wpAny_runOwn ?_)
    have loop : codeAny (model B.prog B.w) A (.compLoop (.ListComp elt G sc pos) (k + 1) (.ref h1.objs.size) (.ref acc) env) (fun r s' => match r with | .ok f => wpAny (model B.prog B.w) A (pure () : Sem Unit) Q E s' | .error e => cameBackBy (model B.prog B.w) A env E e s') { s with heap := h2, toks := tk1 } := by
      refine comp_loop hI hG (p := p) (q := q) (items := items) (Γ := Γ) hr hk' hgs (okTarget_kind hok) hifs (fun g' hg' => hwf g' (List.mem_cons_of_mem _ hg')) helt hΓ hnd hne (fun g' hg' => ?_) items [] xs ds σ1 σ' Φ1 _ e4 rfl o2 n2 hacc1 hit (ac1.step (X := NoX) c2 id) hlen st so fun h3 tk3 Φ3 c3 o3 n3 ha3 ac3 => wpAny_pure ?_
      · obtain ⟨_, _, e, _⟩ := wfGen_shape (hwf g' (List.mem_cons_of_mem _ hg')).1
        rw [e]
      · exact h h3 tk3 Φ3 ((c1.weak fun b e => .inl e).trans (Chg.fresh hk2 hfr c3 fun b e => e)) o3 n3 ha3 ac3
    exact codeAny_compStart_at (A := A) hk' loop (st.self (s := { s with heap := h2, toks := tk1 }) loop)
end
end Mine

-- SnO
namespace Mine
open PySem PySem.SeqAt PySem.MeetsSeq
set_option linter.unusedSectionVars false
set_option linter.unusedSimpArgs false
set_option linter.unusedVariables false

/-! ## the frame of a comprehension -/

theorem lookup_mapNK (f : Str → NameKind → NameKind) : ∀ (names : Names) (x : Str), (names.map fun (n, k) => (n, f n k)).lookup x = (names.lookup x).map (f x)
  | [], _ => rfl
  | (n, k) :: r, x => by
    simp only [List.map_cons, List.lookup_cons]
    cases hx : x == n with
    | true => rw [beq_iff_eq.mp hx]; rfl
    | false => exact lookup_mapNK f r x

noncomputable def relK (env : Env) (n : Str) (k : NameKind) : NameKind := if k == .free && env.scope.kind == .function && env.kindOf n == some .cell then .cell else k
theorem relabel_names (sc : Scope) (env : Env) : (relabel sc env).names = sc.names.map fun (n, k) => (n, relK env n k) := by
  unfold relabel relK
  simp only
  congr 1
  funext x
  obtain ⟨n, k⟩ := x
  simp only
  split <;> rfl
theorem relabel_inner {sc : Scope} {env : Env} (hk : env.scope.kind = .function) : (relabel sc env).names = innerNames env.scope.names sc.names := by
  unfold relabel innerNames
  simp only [hk]
  congr 1
  funext x
  obtain ⟨n, k⟩ := x
  simp [Env.kindOf]
theorem relK_ne {env : Env} {n : Str} {k : NameKind} (h : k ≠ .free) : relK env n k = k := by
  unfold relK
  have : (k == NameKind.free) = false := by simpa using h
  simp [this]

theorem lookup_mem_of_nodup {α : Type} : ∀ {l : List (Str × α)} {x : Str} {a : α}, (l.map (·.1)).Nodup → (x, a) ∈ l → l.lookup x = some a
  | (k, v) :: r, x, a, hn, hm => by
    simp only [List.map_cons, List.nodup_cons] at hn
    rw [List.lookup_cons]
    rcases List.mem_cons.mp hm with e | hm'
    · cases e; simp
    · have : (x == k) = false := by
        rw [beq_eq_false_iff_ne]
        rintro rfl
        exact hn.1 (List.mem_map.mpr ⟨(x, a), hm', rfl⟩)
      rw [this]
      exact lookup_mem_of_nodup hn.2 hm'

theorem cellsFrom_acc : ∀ (names : Names) (n : Nat) (acc : List (Str × Addr)), cellsFrom n names acc = cellsFrom n names [] ++ acc
  | [], _, _ => rfl
  | (name, kind) :: r, n, acc => by
    simp only [cellsFrom]
    split
    · rw [cellsFrom_acc r (n + 1) ((name, n) :: acc), cellsFrom_acc r (n + 1) [(name, n)], List.append_assoc]; rfl
    · exact cellsFrom_acc r n acc
theorem cellsFrom_mem : ∀ (names : Names) (n : Nat) (x : Str) (c : Addr), (x, c) ∈ cellsFrom n names [] → (x, .cell) ∈ names
  | [], _, _, _, h => by simp [cellsFrom] at h
  | (name, kind) :: r, n, x, c, h => by
    simp only [cellsFrom] at h
    split at h
    · rename_i hk
      rw [cellsFrom_acc] at h
      rcases List.mem_append.mp h with h | h
      · exact List.mem_cons_of_mem _ (cellsFrom_mem r _ x c h)
      · simp only [List.mem_singleton, Prod.mk.injEq] at h
        rw [h.1, beq_iff_eq.mp hk]; exact List.mem_cons_self
    · exact List.mem_cons_of_mem _ (cellsFrom_mem r _ x c h)
theorem cellsFrom_has : ∀ (names : Names) (n : Nat) (x : Str), (x, .cell) ∈ names → ∃ c, (cellsFrom n names []).lookup x = some c
  | (name, kind) :: r, n, x, h => by
    simp only [cellsFrom]
    rcases List.mem_cons.mp h with e | h
    · cases e
      simp only [beq_self_eq_true, if_true]
      rw [cellsFrom_acc, List.lookup_append]
      cases hh : (cellsFrom (n + 1) r []).lookup name with
      | some c => exact ⟨c, rfl⟩
      | none => exact ⟨n, by simp⟩
    · obtain ⟨c, hc⟩ := cellsFrom_has r (if kind == .cell then n + 1 else n) x h
      split
      · rename_i hk
        rw [if_pos hk] at hc
        rw [cellsFrom_acc, List.lookup_append, hc]
        exact ⟨c, rfl⟩
      · rename_i hk
        rw [if_neg hk] at hc
        exact ⟨c, hc⟩

theorem closure_go (env : Env) : ∀ (names : Names) (cs : List (Str × Addr)), (∀ x, (x, .free) ∈ names → ∃ c, env.cells.lookup x = some c) →
    ∃ cl, (forIn names cs fun (name, kind) (cs : List (Str × Addr)) => if kind == .free then do let a ← cellOf env name; pure (ForInStep.yield ((name, a) :: cs)) else pure (ForInStep.yield cs) : Sem (List (Str × Addr))) = pure cl ∧
      (∀ x, (x, .free) ∈ names → cl.lookup x = env.cells.lookup x) ∧ (∀ x, (x, .free) ∉ names → cl.lookup x = cs.lookup x)
  | [], cs, _ => ⟨cs, rfl, by simp, fun _ _ => rfl⟩
  | (n, k) :: r, cs, h => by
    rw [List.forIn_cons]
    by_cases hk : (k == NameKind.free) = true
    · have hk' := beq_iff_eq.mp hk
      subst hk'
      obtain ⟨c, hc⟩ := h n List.mem_cons_self
      obtain ⟨cl, e, h1, h2⟩ := closure_go env r ((n, c) :: cs) fun x hx => h x (List.mem_cons_of_mem _ hx)
      refine ⟨cl, ?_, fun x hx => ?_, fun x hx => ?_⟩
      · have : cellOf env n = pure c := by unfold cellOf; rw [hc]
        simp only [hk, if_true, this, pure_bind]
        exact e
      · by_cases hr : (x, NameKind.free) ∈ r
        · exact h1 x hr
        · have hx' : x = n := by
            rcases List.mem_cons.mp hx with e | e
            · exact (Prod.mk.inj e).1
            · exact absurd e hr
          subst hx'
          rw [h2 x hr, hc]; simp
      · rw [h2 x fun q => hx (List.mem_cons_of_mem _ q), List.lookup_cons]
        have : (x == n) = false := by
          rw [beq_eq_false_iff_ne]
          rintro rfl
          exact hx List.mem_cons_self
        rw [this]
    · obtain ⟨cl, e, h1, h2⟩ := closure_go env r cs fun x hx => h x (List.mem_cons_of_mem _ hx)
      have hk' : k ≠ .free := fun q => hk (by rw [q]; rfl)
      refine ⟨cl, ?_, fun x hx => ?_, fun x hx => h2 x fun q => hx (List.mem_cons_of_mem _ q)⟩
      · simp only [hk, Bool.false_eq_true, if_false, pure_bind]
        exact e
      · rcases List.mem_cons.mp hx with e | e
        · exact absurd (Prod.mk.inj e).2.symm hk'
        · exact h1 x e

theorem okInner_of {outer inner : Names} (h : okInner outer inner = true) : (inner.map (·.1)).Nodup ∧ ∀ n k, (n, k) ∈ inner → k = .local ∨ k = .cell ∨ k = .globalImplicit ∨ (k = .free ∧ (outer.lookup n = some .cell ∨ outer.lookup n = some .free)) := by
  simp only [okInner, Bool.and_eq_true, decide_eq_true_eq, List.all_eq_true] at h
  refine ⟨h.1, fun n k hm => ?_⟩
  have := h.2 (n, k) hm
  simp only at this
  split at this
  · exact .inl rfl
  · exact .inr (.inl rfl)
  · exact .inr (.inr (.inl rfl))
  · refine .inr (.inr (.inr ⟨rfl, ?_⟩))
    split at this
    · left; assumption
    · right; assumption
    · cases this
  · cases this

section
variable {B : Bs} {Φ Φ' : PH} {α : List Addr} {σ σ' : Store} {h h' h0 : Heap} {env : Env} {Γ Γ' : Ctx}

theorem Nm.closure (n : Nm B Φ α env Γ h) {sc : Scope} (hin : okInner env.scope.names sc.names = true) :
    ∃ cl, closureFor sc env = pure cl ∧ (∀ x, (x, .free) ∈ sc.names → cl.lookup x = env.cells.lookup x) ∧ (∀ x, (x, .free) ∉ sc.names → cl.lookup x = none) := by
  obtain ⟨_, hk⟩ := okInner_of hin
  obtain ⟨cl, e, h1, h2⟩ := closure_go env sc.names [] fun x hx => by
    rcases hk x .free hx with q | q | q | ⟨_, q⟩
    · cases q
    · cases q
    · cases q
    · rcases q with q | q
      · obtain ⟨c, v, h1, _⟩ := n.cell x _ q (.inl rfl); exact ⟨c, h1⟩
      · obtain ⟨c, v, h1, _⟩ := n.cell x _ q (.inr rfl); exact ⟨c, h1⟩
  refine ⟨cl, ?_, h1, fun x hx => h2 x hx⟩
  unfold closureFor
  rw [← bind_pure (pure cl : Sem (List (Str × Addr))), ← e]

noncomputable def compEnvN (sc : Scope) (cl : List (Str × Addr)) (L : Addr) (env : Env) : Env :=
  { scope := relabel sc env, locals := L, globals := env.globals, cells := cellsFrom (L + 1) sc.names cl, qual := env.qual, func := none, code := env.code, frame := env.frame, builtins := env.builtins }

noncomputable def frameO : Obj := { cls := .type "dict", dict := none, data := .dict #[] }

theorem newEnv_comp {A : Around} {E : Value → Shared → Prop} {s : Shared} {sc : Scope} {cl : List (Str × Addr)} {Q : Env → Shared → Prop} {prog : Program} {w : World}
    (h : ∀ cenv : Env, ({ cenv with scope := relabel sc env } : Env) = compEnvN sc cl s.heap.objs.size env → cenv.locals = s.heap.objs.size → Q cenv { s with heap := pushCells (s.heap.push frameO) sc.names }) :
    wpAny (model prog w) A (newFunctionEnv sc env.globals cl [] env.qual none .none (some env)) Q E s := by
  simp only [newFunctionEnv, Option.isSome_some, if_true]
  refine wpAny_bind (wpAny_alloc ?_)
  refine wpAny_bind (wpAny_layCells _ (fun name kind cells => by cases hkc : kind == NameKind.cell <;> simp [hkc]) _ _ _ _ ?_)
  rw [List.forIn_nil]
  refine wpAny_bind (wpAny_pure (wpAny_pure ?_))
  rw [show ({ s with heap := s.heap.push { cls := .type "dict", data := .dict #[] } } : Shared).heap.objs.size = s.heap.objs.size + 1 from Heap.size_push ..]
  exact h _ rfl rfl

theorem capt_some {sc : Scope} {x : Str} {d : D} (e : capt sc Γ x = some d) : sc.names.lookup x = some .free ∧ Γ x = some d := by
  unfold capt at e
  split at e
  · exact ⟨by assumption, e⟩
  · cases e

theorem Nm.comp (o : Ok B Φ α σ h) (n : Nm B Φ α env Γ h) {sc : Scope} {cl : List (Str × Addr)} (hkind : sc.kind = .function) (hin : okInner env.scope.names sc.names = true)
    (h1 : ∀ x, (x, .free) ∈ sc.names → cl.lookup x = env.cells.lookup x) (h2 : ∀ x, (x, .free) ∉ sc.names → cl.lookup x = none) :
    Nm B Φ α (compEnvN sc cl h.objs.size env) (capt sc Γ) (pushCells (h.push frameO) sc.names) ∧
      (∀ x b, okTarget sc.names x = true → slotOf (compEnvN sc cl h.objs.size env) x b → h.get? b = none) := by
  obtain ⟨hnd, hk⟩ := okInner_of hin
  have ok := cellsFrom_ok sc.names (h.push frameO) (h.objs.size + 1) [] ⟨fun _ _ hm => (nomatch hm), List.Pairwise.nil⟩ (by rw [Heap.size_push]; exact Nat.le_refl _)
  rw [Heap.size_push] at ok
  have hcells : (compEnvN sc cl h.objs.size env).cells = cellsFrom (h.objs.size + 1) sc.names [] ++ cl := cellsFrom_acc _ _ _
  have hkindOf : ∀ x, (compEnvN sc cl h.objs.size env).kindOf x = (sc.names.lookup x).map (relK env x) := fun x => by
    show (relabel sc env).names.lookup x = _
    rw [relabel_names, lookup_mapNK]
  have old : ∀ b ob, h.get? b = some ob → (pushCells (h.push frameO) sc.names).get? b = some ob := fun b ob e => pushCells_keeps _ _ _ _ (Heap.get?_push_of_some _ e)
  have fr : ∀ a, h.objs.size ≤ a → h.get? a = none := fun a ha => by
    cases e : h.get? a with
    | none => rfl
    | some o' => exact absurd (Heap.lt_size e) (Nat.not_lt.mpr ha)
  have frΦ : ∀ a, h.objs.size ≤ a → Φ a = none := fun a ha => o.seen.none_of (fr a ha)
  have frα : ∀ a, h.objs.size ≤ a → a ∉ α := fun a ha q => by obtain ⟨x, hx⟩ := o.live a q; rw [fr a ha] at hx; cases hx
  -- where a name's cell is
  have ownL : ∀ x, sc.names.lookup x = some .cell → ∃ c, (cellsFrom (h.objs.size + 1) sc.names []).lookup x = some c ∧ (compEnvN sc cl h.objs.size env).cells.lookup x = some c := fun x hx => by
    obtain ⟨c, hc⟩ := cellsFrom_has sc.names (h.objs.size + 1) x (mem_of_lookup hx)
    exact ⟨c, hc, by rw [hcells, List.lookup_append, hc]; rfl⟩
  have capL : ∀ x, sc.names.lookup x ≠ some .cell → (compEnvN sc cl h.objs.size env).cells.lookup x = cl.lookup x := fun x hx => by
    rw [hcells, List.lookup_append]
    cases hc : (cellsFrom (h.objs.size + 1) sc.names []).lookup x with
    | none => rfl
    | some c => exact absurd (lookup_mem_of_nodup hnd (cellsFrom_mem _ _ _ _ (mem_of_lookup hc))) hx
  have kinds : ∀ x k, (compEnvN sc cl h.objs.size env).kindOf x = some k → k = .cell ∨ k = .free → sc.names.lookup x = some .cell ∨ sc.names.lookup x = some .free := fun x k e hk' => by
    rw [hkindOf] at e
    cases hl : sc.names.lookup x with
    | none => rw [hl] at e; cases e
    | some k' =>
      rw [hl] at e
      by_cases hf : k' = .free
      · exact .inr (by rw [hf])
      · simp only [Option.map_some, Option.some.injEq, relK_ne hf] at e
        subst e
        rcases hk' with q | q
        · exact .inl (by rw [q])
        · exact absurd q hf
  have capK : ∀ x, sc.names.lookup x = some .free → ∃ k, env.kindOf x = some k ∧ (k = .cell ∨ k = .free) := fun x hx => by
    rcases hk x .free (mem_of_lookup hx) with q | q | q | ⟨_, q⟩
    · cases q
    · cases q
    · cases q
    · rcases q with q | q
      · exact ⟨_, q, .inl rfl⟩
      · exact ⟨_, q, .inr rfl⟩
  refine ⟨⟨hkind, n.glob, n.bltn, ⟨fun _ => none, (Heap.Ns.new h (.type "dict")).keeps (pushCells_keeps _ _), fun x d hx e => ?_⟩, frΦ _ (Nat.le_refl _), frα _ (Nat.le_refl _), fun x k hx hk' => ?_, fun x y c hx hy => ?_, fun x d hx e => ?_⟩, fun x b hx hs => ?_⟩
  · obtain ⟨e1, _⟩ := capt_some e
    rw [hkindOf, e1] at hx
    simp only [Option.map_some, relK, Option.some.injEq] at hx
    split at hx <;> cases hx
  · rcases kinds x k hx hk' with hl | hl
    · obtain ⟨c, hc, hc'⟩ := ownL x hl
      obtain ⟨q1, q2⟩ := ok.empty x c (mem_of_lookup hc)
      refine ⟨c, none, hc', q1, frΦ _ (Nat.le_of_succ_le q2), frα _ (Nat.le_of_succ_le q2), Nat.ne_of_gt q2, fun d e => ?_⟩
      obtain ⟨e1, _⟩ := capt_some e
      rw [hl] at e1; cases e1
    · obtain ⟨k', hk1, hk2⟩ := capK x hl
      obtain ⟨c, v, q1, q2, q3, q4, q5, q6⟩ := n.cell x k' hk1 hk2
      refine ⟨c, v, ?_, q2.keeps old, q3, q4, Nat.ne_of_lt q2.lt, fun d e => q6 d (capt_some e).2⟩
      rw [capL x (by rw [hl]; simp), h1 x (mem_of_lookup hl), q1]
  · have side : ∀ z c, (compEnvN sc cl h.objs.size env).cells.lookup z = some c → ((z, c) ∈ cellsFrom (h.objs.size + 1) sc.names [] ∧ h.objs.size < c) ∨ (env.cells.lookup z = some c ∧ c < h.objs.size) := fun z c hz => by
      rw [hcells, List.lookup_append] at hz
      cases hc : (cellsFrom (h.objs.size + 1) sc.names []).lookup z with
      | some c' =>
        rw [hc] at hz
        simp only [Option.some_or, Option.some.injEq] at hz
        subst hz
        exact .inl ⟨mem_of_lookup hc, (ok.empty _ _ (mem_of_lookup hc)).2⟩
      | none =>
        rw [hc, Option.none_or] at hz
        by_cases hf : (z, NameKind.free) ∈ sc.names
        · rw [h1 z hf] at hz
          obtain ⟨k', hk1, hk2⟩ := capK z (lookup_mem_of_nodup hnd hf)
          obtain ⟨c', v, q1, q2, _⟩ := n.cell z k' hk1 hk2
          rw [hz] at q1; cases q1
          exact .inr ⟨hz, q2.lt⟩
        · rw [h2 z hf] at hz; cases hz
    rcases side x c hx with ⟨a1, a2⟩ | ⟨a1, a2⟩ <;> rcases side y c hy with ⟨b1, b2⟩ | ⟨b1, b2⟩
    · exact name_of_addr ok.apart a1 b1
    · exact absurd a2 (Nat.lt_asymm b2)
    · exact absurd a2 (Nat.lt_asymm b2)
    · exact n.apart x y c a1 b1
  · obtain ⟨e1, _⟩ := capt_some e
    rw [hkindOf, e1] at hx
    simp only [Option.map_some, relK, Option.some.injEq] at hx
    split at hx <;> cases hx
  · rcases hs with ⟨_, rfl⟩ | ⟨hk', e⟩
    · exact fr _ (Nat.le_refl _)
    · have hl : sc.names.lookup x = some .cell := by
        unfold okTarget at hx
        split at hx
        · rename_i hl
          rw [hkindOf, hl] at hk'
          cases hk'
        · assumption
        · cases hx
      obtain ⟨c, hc, hc'⟩ := ownL x hl
      rw [hc'] at e
      cases e
      exact fr _ (Nat.le_of_succ_le (ok.empty _ _ (mem_of_lookup hc)).2)
end
end Mine

-- SnP
namespace Mine
open PySem PySem.SeqAt PySem.MeetsSeq
set_option linter.unusedSectionVars false
set_option linter.unusedSimpArgs false
set_option linter.unusedVariables false

section
variable {B : Bs} {Φ Φ' : PH} {α : List Addr} {σ σ' : Store} {h h' h0 : Heap} {env : Env} {Γ Γ' : Ctx}

theorem Chg.freshs {X Y : Addr → Prop} (hk : ∀ b o, h0.get? b = some o → h.get? b = some o) (c : Chg Y Φ Φ' h h') (hY : ∀ b, Y b → X b ∨ h0.get? b = none) : Chg X Φ Φ' h0 h' where
  keep := fun b o hb e => c.keep b o (fun q => (hY b q).elim hb fun q => by rw [q] at e; cases e) (hk b o e)
  mono := c.mono
  new := fun b o hb e => c.new b o (fun q => (hY b q).elim hb fun q => by rw [q] at e; cases e) (hk b o e)

/-- a thing of the step's own is frozen -/
theorem Ok.freeze (o : Ok B Φ α σ h) {a : Addr} {ob : Obj} (ha : a ∉ α) (hΦ : Φ a = none) (hg : h.get? a = some ob) : Ok B (put Φ a ob) α σ h where
  base := fun b x e => put_mono hΦ b x (o.base b x e)
  seen := fun b x e => by
    by_cases hb : b = a
    · subst hb; rw [put_self] at e; cases e; exact hg
    · rw [put_ne _ _ hb] at e; exact o.seen b x e
  len := o.len
  nodup := o.nodup
  live := o.live
  cell := fun k b d hb hd => (o.cell k b d hb hd).imp id fun ⟨hd', x, hx, hn, hs, c⟩ => ⟨hd', x, hx, by
    have hm : b ∈ α := List.mem_iff_getElem?.mpr ⟨k, hb⟩
    have hba : b ≠ a := by
      rintro rfl
      exact ha hm
    rw [put_ne Φ ob hba, hn], hs, c.mono (put_mono hΦ)⟩
end

theorem targets_ok {f : Expr → Bool} {names : Names} {gens : List Comprehension} (h : ∀ g ∈ gens, wfGen f names g = true) {t : Str} (ht : t ∈ gens.filterMap targetOf) : okTarget names t = true := by
  obtain ⟨g, hg, e⟩ := List.mem_filterMap.mp ht
  obtain ⟨x, px, _, e2, h3, _⟩ := wfGen_shape (h g hg)
  rw [e] at e2; cases e2
  exact h3

theorem okTarget_inner {outer inner : Names} {x : Str} (h : okTarget inner x = true) : okTarget (innerNames outer inner) x = true := by
  unfold okTarget at h ⊢
  have : (innerNames outer inner).lookup x = (inner.lookup x).map fun k => if k == .free && outer.lookup x == some .cell then .cell else k := by
    unfold innerNames
    rw [← lookup_mapNK fun n k => if k == .free && outer.lookup n == some .cell then .cell else k]
    congr 2
    funext y
    obtain ⟨n, k⟩ := y
    simp only
    split <;> rfl
  rw [this]
  split at h
  · rename_i hl; rw [hl]; rfl
  · rename_i hl; rw [hl]; rfl
  · cases h

theorem wfGen_inner {f : Expr → Bool} {outer inner : Names} {g : Comprehension} (h : wfGen f inner g = true) : wfGen f (innerNames outer inner) g = true := by
  obtain ⟨t, it, ifs, a⟩ := g
  obtain ⟨h12, h3⟩ := Bool.and_eq_true_iff.mp h
  obtain ⟨h1, h2⟩ := Bool.and_eq_true_iff.mp h12
  obtain ⟨x, px, rfl, h4⟩ := okNameT_of h1
  exact Bool.and_eq_true_iff.mpr ⟨Bool.and_eq_true_iff.mpr ⟨okTarget_inner h4, h2⟩, h3⟩

theorem wfE_comp {m : Nat} {nm : Names} {elt : Expr} {g : Comprehension} {gs : List Comprehension} {sc : Scope} {pos : Pos} (h : wfE (m + 1) nm (.ListComp elt (g :: gs) sc pos) = true) :
    sc.kind = .function ∧ okInner nm sc.names = true ∧ ((g :: gs).filterMap targetOf).Nodup ∧ wfE m nm g.iter = true ∧ (∀ g' ∈ g :: gs, wfGen (wfE m (innerNames nm sc.names)) sc.names g' = true) ∧
      (∀ g' ∈ gs, wfE m (innerNames nm sc.names) g'.iter = true) ∧ wfE m (innerNames nm sc.names) elt = true := by
  obtain ⟨h, h7⟩ := (Bool.and_eq_true_iff (y := wfE m (innerNames nm sc.names) elt)).mp h
  obtain ⟨h, h6⟩ := Bool.and_eq_true_iff.mp h
  obtain ⟨h, h5⟩ := Bool.and_eq_true_iff.mp h
  obtain ⟨h, h4⟩ := Bool.and_eq_true_iff.mp h
  obtain ⟨h, h3⟩ := Bool.and_eq_true_iff.mp h
  obtain ⟨h1, h2⟩ := Bool.and_eq_true_iff.mp h
  exact ⟨beq_iff_eq.mp h1, h2, of_decide_eq_true h3, h4, List.all_eq_true.mp h5, List.all_eq_true.mp h6, h7⟩

section
variable {B : Bs} {F : Fns} {r n : Nat}

theorem ItSt.notCell {w : World} {Φ : PH} {h : Heap} {it : Addr} {items : List D} {i : Nat} {q : Option Addr} (x : ItSt w Φ h it items i q) {o : Obj} {v : Option Value} (e : h.get? it = some o) (hd : o.data = .cell v) : False := by
  cases x with
  | list b _ _ => obtain ⟨ob', w1, w2, w3⟩ := b; rw [e] at w1; cases w1; rw [hd] at w3; cases w3
  | loc b _ _ _ => obtain ⟨ob', w1, w2, w3⟩ := b; rw [e] at w1; cases w1; rw [hd] at w3; cases w3
  | tup b _ _ => obtain ⟨ob', w1, w2, w3⟩ := b; rw [e] at w1; cases w1; rw [hd] at w3; cases w3
  | dct b _ _ _ => obtain ⟨ob', w1, w2, w3⟩ := b; rw [e] at w1; cases w1; rw [hd] at w3; cases w3
  | rng b _ => unfold IsRangeIter at b; rw [e] at b; cases b; cases hd

theorem comp_at (hE : SndE B F r n) (hI : SndI B F r n) (hG : SndG B F r n) {Γ : Ctx} {elt : Expr} {g : Comprehension} {gs : List Comprehension} {sc : Scope} {pos ps : Pos} {σ σ' : Store} {d : D}
    (ev : evE (n + 1) F Γ (.ListComp elt (g :: gs) sc pos) σ = some (d, σ')) {m : Nat} {A : Around} {env : Env} {Φ : PH} {α : List Addr} {s : Shared} {E Q : Value → Shared → Prop} {use : Option (Value → Sem Unit)}
    (hr : Room r A) (o : Ok B Φ α σ s.heap) (nm : Nm B Φ α env Γ s.heap) (wf : wfE m env.scope.names (.ListComp elt (g :: gs) sc pos) = true)
    (K : ∀ v h' tk Φ' C mm, Chg (· ∈ α) Φ Φ' s.heap h' → Ok B Φ' α σ' h' → Rep B.w Φ' v d → h'.Ns C mm → Apart Φ' α env C → s.heap.get? C = none → compPost (model B.prog B.w) A E use Q v C (.ok .next) { s with heap := h', toks := tk }) :
    wpAny (model B.prog B.w) A (comprehension (.ListComp elt (g :: gs) sc pos) sc env ps (newList []) false (eval g.iter env) use) Q E s := by
  cases m with
  | zero => exact no wf
  | succ m =>
  obtain ⟨hkind, hin, hnd, hwi, hwg, hwgi, hwelt⟩ := wfE_comp wf
  obtain ⟨x, px, hgE, htg, hok, hifs⟩ := wfGen_shape (hwg g List.mem_cons_self)
  obtain ⟨cl, hcl, hc1, hc2⟩ := nm.closure hin
  have hnames : ∀ y ∈ sc.names, y.2 = .local → sc.names.lookup y.1 = some .local := fun y hy e => lookup_mem_of_nodup (okInner_of hin).1 (by rw [← e]; exact hy)
  rw [hgE] at ev
  obtain ⟨⟨p, σ1⟩, e1, ev⟩ := bsome (eE_comp.symm.trans ev)
  obtain ⟨src, e2, ev⟩ := bsome ev
  obtain ⟨items, e3, ev⟩ := bsome ev
  obtain ⟨⟨ds, σ2⟩, e4, e5⟩ := bsome ev
  obtain ⟨hlen, rfl, rfl⟩ : ds.length ≤ 1000 ∧ D.lst ds = d ∧ σ2 = σ' := by
    by_cases hq : ds.length ≤ 1000
    · exact ⟨hq, psome ((if_pos hq).symm.trans e5)⟩
    · exact nn ((if_neg hq).symm.trans e5)
  refine wpAny_comprehension_free (e := .ListComp elt (g :: gs) sc pos) rfl (fun y => no_fold hwi env y) hcl hkind hnames ?_
  refine hE _ _ _ _ _ e1 m A env Φ α s _ _ hr o nm hwi fun v h1 tk1 Φ1 c1 o1 rv => ?_
  have n1 := nm.chg c1
  refine iter_start (s := { s with heap := h1, toks := tk1 }) o1 rv e2 e3 fun h2 q hk2 st so hsame => ?_
  have hfr : h1.get? h1.objs.size = none := fresh_none h1
  -- the list that is filled
  refine wpAny_newObj_type (newEnv_comp fun cenv hcenv hloc => ?_)
  dsimp only at hcenv hloc ⊢
  generalize hH3 : h2.push { cls := .type "list", dict := none, data := .seq ([] : List Value).toArray } = H3 at hcenv hloc ⊢
  have hk3 : ∀ b ob, h2.get? b = some ob → H3.get? b = some ob := fun b ob e => hH3 ▸ Heap.get?_push_of_some _ e
  have hk4 : ∀ b ob, H3.get? b = some ob → (pushCells (H3.push frameO) sc.names).get? b = some ob := fun b ob e => pushCells_keeps _ _ _ _ (Heap.get?_push_of_some _ e)
  have lift : ∀ {X : Addr → Prop} {ha hb : Heap}, (∀ b ob, ha.get? b = some ob → hb.get? b = some ob) → Chg X Φ1 Φ1 ha hb := fun hk => ⟨fun _ _ _ e => hk _ _ e, fun _ _ e => e, fun _ _ _ _ => rfl⟩
  have o2 : Ok B Φ1 α σ1 h2 := o1.makes (lift hk2) fun a ob e => hk2 _ _ (o1.seen a ob e)
  have n2 : Nm B Φ1 α env Γ h2 := n1.step (X := NoX) (lift hk2) id fun _ _ _ _ _ _ f => f
  have o3 : Ok B Φ1 α σ1 H3 := o2.makes (lift hk3) fun a ob e => hk3 _ _ (o2.seen a ob e)
  have n3 : Nm B Φ1 α env Γ H3 := n2.step (X := NoX) (lift hk3) id fun _ _ _ _ _ _ f => f
  obtain ⟨n4, hslot⟩ := n3.comp o3 hkind hin hc1 hc2
  have o4 : Ok B Φ1 α σ1 (pushCells (H3.push frameO) sc.names) := o3.makes (lift hk4) fun a ob e => hk4 _ _ (o3.seen a ob e)
  have hitA : ∃ ob, h2.get? h1.objs.size = some ob := st.alive (s := { s with heap := h2 })
  obtain ⟨oi, hoi⟩ := hitA
  have hacc0 : h2.get? h2.objs.size = none := fresh_none h2
  have haccG : H3.get? h2.objs.size = some (lstO [] 0) := by rw [← hH3]; exact Heap.get?_push_size _ rfl
  have hL0 : H3.get? H3.objs.size = none := fresh_none H3
  have ce := compEnvN sc cl H3.objs.size env
  -- what is new
  have newIt : Apart Φ1 α (compEnvN sc cl H3.objs.size env) h1.objs.size := by
    have a1 : Apart Φ1 α env h1.objs.size := Apart.new o1 n1 hfr
    refine ⟨a1.fr, a1.al, fun q => ?_, fun y k c hk hk' e q => ?_⟩
    · have := hk3 _ _ hoi
      rw [q] at this
      exact absurd (this.symm.trans hL0) (by simp)
    · obtain ⟨c', v', q1, ⟨ob, q2, q3⟩, q4, q5, q6, q7⟩ := n4.cell y k hk hk'
      rw [e] at q1; cases q1
      have q8 := hk4 _ _ (hk3 _ _ hoi)
      rw [← q, q2] at q8
      cases q8
      exact st.notCell hoi q3
  have newAcc : Apart Φ1 α (compEnvN sc cl H3.objs.size env) h2.objs.size := by
    have a1 : Apart Φ1 α env h2.objs.size := Apart.new o2 n2 hacc0
    refine ⟨a1.fr, a1.al, fun q => ?_, fun y k c hk hk' e q => ?_⟩
    · rw [q] at haccG
      exact absurd (haccG.symm.trans hL0) (by simp)
    · obtain ⟨c', v', q1, q2, _⟩ := n4.cell y k hk hk'
      rw [e] at q1; cases q1
      exact isCell_ne_lst q2 (q ▸ hk4 _ _ haccG)
  have hne : h2.objs.size ≠ h1.objs.size := by
    intro q
    rw [q, hoi] at hacc0; cases hacc0
  have ac4 : Acc B Φ1 h2.objs.size [] (pushCells (H3.push frameO) sc.names) := ⟨[], 0, hk4 _ _ haccG, .nil⟩
  have hinner : (compEnvN sc cl H3.objs.size env).scope.names = innerNames env.scope.names sc.names := relabel_inner nm.kind
  have hk14 : ∀ b ob, h1.get? b = some ob → (pushCells (H3.push frameO) sc.names).get? b = some ob := fun b ob e => hk4 _ _ (hk3 _ _ (hk2 _ _ e))
  have back : ∀ b, H3.get? b = none → h1.get? b = none := fun b e => by
    cases q : h1.get? b with
    | none => rfl
    | some ob => rw [hk3 _ _ (hk2 _ _ q)] at e; cases e
  rw [hcenv, hloc]
  have loop : codeAny (model B.prog B.w) A (.compLoop (.ListComp elt (g :: gs) sc pos) 0 (.ref h1.objs.size) (.ref h2.objs.size) (compEnvN sc cl H3.objs.size env))
      (compPost (model B.prog B.w) A E use Q (.ref h2.objs.size) H3.objs.size) { s with heap := pushCells (H3.push frameO) sc.names, toks := tk1 } := by
    have htgE : (g :: gs).filterMap targetOf = x :: gs.filterMap targetOf := by rw [List.filterMap_cons, htg]
    have hts : ∀ t ∈ x :: gs.filterMap targetOf, okTarget sc.names t = true := fun t ht => targets_ok hwg (htgE ▸ ht)
    refine comp_loop hI hG (p := p) (q := q) (items := items) (Γ := capt sc Γ) (m := m) (itx := g.iter) (px := px) (x := x) (ifs := g.ifs) (gs := gs) hr (by rw [List.getElem?_cons_zero]; exact congrArg some hgE) rfl
      (okTarget_kind (env := compEnvN sc cl H3.objs.size env) (by rw [hinner]; exact okTarget_inner hok)) (by rw [hinner]; exact hifs)
      (fun g' hg' => by rw [hinner]; exact ⟨wfGen_inner (hwg g' (List.mem_cons_of_mem _ hg')), hwgi g' hg'⟩) (by rw [hinner]; exact hwelt) (fun t ht => ?_) (htgE ▸ hnd) hne (fun g' hg' => ?_)
      items [] [] ds σ1 σ2 Φ1 _ e4 rfl o4 n4 newAcc newIt ac4 (by simpa using hlen) ?_ so fun h5 tk5 Φ5 c5 o5 n5 ha5 ac5 => ?_
    · have := hts t ht
      unfold capt
      split
      · rename_i hl
        unfold okTarget at this
        rw [hl] at this; cases this
      · rfl
    · obtain ⟨_, _, e, _⟩ := wfGen_shape (hwg g' (List.mem_cons_of_mem _ hg'))
      rw [e]
    · refine ItSt.carry (s := { s with heap := h2 }) st (fun _ _ e => e) (fun ob e => hk4 _ _ (hk3 _ _ e)) fun a e => ?_
      exact so.list o4 e
    · obtain ⟨vs, nn, hg5, rl5⟩ := ac5
      have c15 : Chg (· ∈ α) Φ1 Φ5 h1 h5 := by
        refine Chg.freshs hk14 c5 fun b hb => ?_
        rcases hb with (hb | hb | ⟨t, ht, hb⟩) | hb
        · exact .inl hb
        · right
          subst hb
          cases q : h1.get? h2.objs.size with
          | none => rfl
          | some ob => rw [hk2 _ _ q] at hacc0; cases hacc0
        · exact .inr (back _ (hslot t b (hts t ht) hb))
        · exact .inr (hb ▸ hfr)
      have hacc1 : h1.get? h2.objs.size = none := by
        cases q : h1.get? h2.objs.size with
        | none => rfl
        | some ob => rw [hk2 _ _ q] at hacc0; cases hacc0
      have c1' : Chg (· ∈ α) Φ1 (put Φ5 h2.objs.size (lstO vs nn)) h1 h5 :=
        ⟨c15.keep, fun b ob e => put_mono ha5.fr b ob (c15.mono b ob e), fun b ob hb e => by
          rw [put_ne _ _ (fun q => by rw [q, hacc1] at e; cases e)]
          exact c15.new b ob hb e⟩
      obtain ⟨mm, hmm, _⟩ := n5.loc
      have hLs : s.heap.get? H3.objs.size = none ∧ h1.get? H3.objs.size = none := by
        have h1n : h1.get? H3.objs.size = none := back _ hL0
        refine ⟨?_, h1n⟩
        cases q : s.heap.get? H3.objs.size with
        | none => rfl
        | some ob =>
          have := Heap.lt_size q
          by_cases hm : H3.objs.size ∈ α
          · obtain ⟨y, hy⟩ := o1.live _ hm
            rw [h1n] at hy; cases hy
          · rw [c1.keep _ _ hm q] at h1n; cases h1n
      have apC : Apart (put Φ5 h2.objs.size (lstO vs nn)) α env H3.objs.size := by
        have a1 : Apart Φ1 α env H3.objs.size := Apart.new o3 n3 hL0
        refine ⟨?_, a1.al, a1.lo, a1.ce⟩
        rw [put_ne _ _ (fun q => by rw [← q, hL0] at haccG; cases haccG)]
        exact n5.locΦ
      refine K (.ref h2.objs.size) h5 tk5 (put Φ5 h2.objs.size (lstO vs nn)) H3.objs.size mm (c1.trans c1') (o5.freeze ha5.al ha5.fr hg5) ?_ hmm apC hLs.1
      refine .obj (put_self ..) (fun q => ?_) (.lst ((by simpa using rl5 : RepL B.w Φ5 vs ds).mono (put_mono ha5.fr)))
      have := o2.low.lt
      rw [← q] at this
      exact Nat.lt_irrefl _ this
  refine codeAny_compStart_at (A := A) (by rw [List.getElem?_cons_zero]; exact congrArg some hgE) loop ?_
  have st4 : ItSt B.w Φ1 (pushCells (H3.push frameO) sc.names) h1.objs.size items 0 q := by
    refine ItSt.carry (s := { s with heap := h2 }) st (fun _ _ e => e) (fun ob e => hk4 _ _ (hk3 _ _ e)) fun a e => ?_
    exact so.list o4 e
  exact st4.self (s := { s with heap := pushCells (H3.push frameO) sc.names, toks := tk1 }) loop
end
end Mine

-- SnQ
namespace Mine
open PySem PySem.SeqAt PySem.MeetsSeq
set_option linter.unusedSectionVars false
set_option linter.unusedSimpArgs false
set_option linter.unusedVariables false

theorem slot_inj {T m id id'} (a : Slot T m id) (b : Slot T m id') : id = id' := by
  have h : (Sem.pure (some (.builtin id)) : Sem (Option Value)) = Sem.pure (some (.builtin id')) := a.lookup.symm.trans b.lookup
  injection h with h
  injection h with h
  injection h

theorem head_list {m : Str} {l : List D} (h : methHead m (.lst l) = true) : ∃ id, Slot "list" m id ∧ typeOf (.builtin id) = pure (.type "method_descriptor") := by
  simp only [methHead, Bool.or_eq_true, decide_eq_true_eq] at h
  rcases h with (((rfl | rfl) | rfl) | rfl) | rfl
  · exact ⟨_, PySem.F.slot_list_count, PySem.F.type_list_count⟩
  · exact ⟨_, PySem.F.slot_list_index, PySem.F.type_list_index⟩
  · exact ⟨_, PySem.F.slot_list_append, PySem.F.type_list_append⟩
  · exact ⟨_, PySem.F.slot_list_pop, PySem.F.type_list_pop⟩
  · exact ⟨_, PySem.F.slot_list_extend, PySem.F.type_list_extend⟩
theorem head_dict {m : Str} {l : List (Key × D)} (h : methHead m (.dct l) = true) : ∃ id, Slot "dict" m id ∧ typeOf (.builtin id) = pure (.type "method_descriptor") := by
  simp only [methHead, decide_eq_true_eq] at h
  subst h
  exact ⟨_, PySem.F.slot_dict_get, PySem.F.type_dict_get⟩

section
variable {B : Bs} {Φ Φ' : PH} {α : List Addr} {σ σ' : Store} {h h' h0 : Heap} {env : Env} {Γ Γ' : Ctx}

theorem Ok.cellOf (o : Ok B Φ α σ h) {k : Nat} {a : Addr} {d : D} (ha : α[k]? = some a) (hσ : σ[k]? = some d) (hd : d ≠ .nil) : ∃ ob, h.get? a = some ob ∧ Φ a = none ∧ a ≠ sysModules ∧ Cont B.w Φ ob d :=
  (o.cell k a d ha hσ).elim (fun q => absurd q hd) fun ⟨_, x⟩ => x

theorem Ok.cell_set (o : Ok B Φ α σ h) {k : Nat} {a : Addr} {d0 d : D} {ob : Obj} (ha : α[k]? = some a) (hσ : σ[k]? = some d0) (hd0 : d0 ≠ .nil) (hs : Heap.SameBut a h h') (hg : h'.get? a = some ob) (c : Cont B.w Φ ob d)
    (hd : (∃ l, d = .lst l) ∨ ∃ l, d = .dct l) : Ok B Φ α (σ.set k d) h' ∧ Chg (· ∈ α) Φ Φ h h' := by
  obtain ⟨ob0, h1, h2, h3, _⟩ := o.cellOf ha hσ hd0
  have hm : a ∈ α := List.mem_iff_getElem?.mpr ⟨k, ha⟩
  have hc : Chg (fun b => b = a) Φ Φ h h' := Chg.ext hs.extBut rfl
  refine ⟨⟨o.base, o.seen.ext hs.extBut h2, by rw [List.length_set]; exact o.len, o.nodup, fun b hb => ?_, fun j b d' hb hd' => ?_⟩, hc.weak fun b e => e ▸ hm⟩
  · by_cases hba : b = a
    · subst hba; exact ⟨ob, hg⟩
    · obtain ⟨x, hx⟩ := o.live b hb
      exact ⟨x, hc.keep b x hba hx⟩
  · by_cases hj : j = k
    · subst hj
      rw [ha] at hb; cases hb
      have hlt : j < σ.length := (List.getElem?_eq_some_iff.mp hσ).1
      rw [List.getElem?_set_self hlt] at hd'
      cases hd'
      exact .inr ⟨hd, ob, hg, h2, h3, c⟩
    · rw [List.getElem?_set_ne (Ne.symm hj)] at hd'
      have hba : b ≠ a := by
        rintro rfl
        obtain ⟨p1, p2⟩ := List.getElem?_eq_some_iff.mp ha
        obtain ⟨q1, q2⟩ := List.getElem?_eq_some_iff.mp hb
        have hp := List.pairwise_iff_getElem.mp o.nodup
        rcases Nat.lt_or_gt_of_ne hj with hlt | hlt
        · exact hp j k q1 p1 hlt (q2.trans p2.symm)
        · exact hp k j p1 q1 hlt (p2.trans q2.symm)
      exact (o.cell j b d' hb hd').imp id fun ⟨x1, x, x2, x3⟩ => ⟨x1, x, hc.keep b x hba x2, x3⟩
end

section
variable {B : Bs} {F : Fns} {r n : Nat} {A : Around} {E : Value → Shared → Prop} {s : Shared} {Φ : PH} {α : List Addr} {σ : Store}

theorem update_list {h : Heap} {a : Addr} {vs : List Value} {c : Nat} (e : h.get? a = some (lstO vs c)) (f : Array Value → Array Value) : ∃ c', (h.update a (Obj.mapSeq f)).get? a = some (lstO (f vs.toArray).toList c') := by
  have : ∃ c', Obj.mapSeq f (lstO vs c) = lstO (f vs.toArray).toList c' := by
    unfold Obj.mapSeq lstO
    simp only [Array.toArray_toList]
    exact ⟨_, rfl⟩
  obtain ⟨c', this⟩ := this
  exact ⟨c', by rw [Heap.get?_update_self _ e (by rw [this]; rfl), this]⟩

theorem meth_set {m : Str} {l l' : List D} {d : D} {k : Nat} {a : Addr} {ds : List D} {vs : List Value} {Q : Value → Shared → Prop} (o : Ok B Φ α σ s.heap) (ha : α[k]? = some a) (hσ : σ[k]? = some (.lst l)) (rs : RepL B.w Φ vs ds)
    (e : methS m l ds = some (d, l')) (h : GoE B Φ α (σ.set k (.lst l')) d s Q) : ∃ id, Slot "list" m id ∧ wpAny (model B.prog B.w) A (call (.builtin id) (.ref a :: vs)) Q E s := by
  obtain ⟨ob, hg, hΦ, hsm, c⟩ := o.cellOf ha hσ (by simp)
  obtain ⟨us, cc, rfl, rl⟩ := c.lst_inv
  have h1000 := lines1000
  have fin : ∀ (f : Array Value → Array Value) (v : Value) (tk : Nat), RepL B.w Φ (f us.toArray).toList l' → Rep B.w Φ v d → Q v { s with heap := s.heap.update a (Obj.mapSeq f), toks := tk } := fun f v tk r1 r2 => by
    obtain ⟨c', hg'⟩ := update_list hg f
    obtain ⟨o', ch⟩ := o.cell_set ha hσ (by simp) (Heap.SameBut.update ..) hg' (.lst r1) (.inl ⟨_, rfl⟩)
    exact h v _ tk Φ ch o' r2.repV
  unfold methS at e
  split at e
  · cases rs
    split at e
    · rename_i hm
      subst hm
      split at e
      · rename_i x hx
        split at e <;> simp only [Option.some.injEq, reduceCtorEq, Prod.mk.injEq] at e
        rename_i hlen
        obtain ⟨rfl, rfl⟩ := e
        have hx' : l[l.length - 1]? = some x := by rw [← List.getLast?_eq_getElem?]; exact hx
        obtain ⟨v, hv, rv⟩ := rl.get hx'
        refine ⟨_, PySem.F.slot_list_pop, call_meets PySem.F.slot_list_pop ⟨_, hg, rfl⟩ PySem.F.entry_list_pop (PySem.F.args_list_pop_1 _) (list_pop_last a us.toArray cc v (by simpa [rl.length] using hv) (by simp only [List.size_toArray, rl.length]; omega)) ⟨hg, ?_⟩⟩
        refine fin _ v s.toks ?_ rv
        have : (us.toArray.eraseIdxIfInBounds (us.toArray.size - 1)).toList = us.take (us.length - 1) := by
          simp only [Array.toList_eraseIdxIfInBounds, List.size_toArray]
          rw [List.eraseIdx_eq_take_drop_succ]
          have : us.drop (us.length - 1 + 1) = [] := List.drop_eq_nil_of_le (by omega)
          rw [this, List.append_nil]
        rw [this, List.dropLast_eq_take, rl.length]
        exact rl.take _
      · cases e
    · cases e
  · rename_i x
    cases rs with
    | cons r1 rs =>
    cases rs
    split at e
    · rename_i hm
      subst hm
      split at e <;> simp only [Option.some.injEq, reduceCtorEq, Prod.mk.injEq] at e
      rename_i hlen
      obtain ⟨rfl, rfl⟩ := e
      simp only [Bool.and_eq_true, decide_eq_true_eq] at hlen
      refine ⟨_, PySem.F.slot_list_append, call_meets PySem.F.slot_list_append ⟨_, hg, rfl⟩ PySem.F.entry_list_append (PySem.F.args_list_append_2 _ _) (list_append a us.toArray cc _ (by simp only [List.size_toArray, rl.length]; omega)) ⟨hg, ?_⟩⟩
      exact fin _ _ s.toks (by simpa using rl.append (.one r1)) .nil
    · split at e
      · rename_i hm
        subst hm
        split at e
        · split at e <;> simp only [Option.some.injEq, reduceCtorEq, Prod.mk.injEq] at e
          rename_i hlen
          obtain ⟨rfl, rfl⟩ := e
          obtain ⟨b, us2, c2, rfl, hb, _, rl2⟩ := r1.lst_inv
          have hb' := o.seen _ _ hb
          refine ⟨_, PySem.F.slot_list_extend, call_meets PySem.F.slot_list_extend ⟨_, hg, rfl⟩ PySem.F.entry_list_extend (PySem.F.args_list_extend_2 _ _) (AutoSeq1.list_extend_list_list_0 a us.toArray cc b us2.toArray c2 ?_ (by simp only [List.size_toArray, rl.length]; omega) (by simp only [List.size_toArray, rl.length, rl2.length]; omega)) ⟨hg, hb', ?_⟩⟩
          · have : Builtin.List.listTooLong (us.toArray.size + us2.toArray.size) = false := by
              unfold Builtin.List.listTooLong
              simp only [List.size_toArray, rl.length, rl2.length, gt_iff_lt, decide_eq_false_iff_not, Nat.not_lt]
              omega
            rw [this]; simp
          · exact fin _ _ s.toks (by simpa using rl.append rl2) .nil
        · cases e
      · cases e
  · cases e
end
end Mine

-- SnR
namespace Mine
open PySem PySem.SeqAt PySem.MeetsSeq
set_option linter.unusedSectionVars false
set_option linter.unusedSimpArgs false
set_option linter.unusedVariables false

theorem RepVL.one {w : World} {Φ : PH} {α : List Addr} {vs : List Value} {d : D} (r : RepVL w Φ α vs [d]) : ∃ v, vs = [v] ∧ RepV w Φ α v d := by
  cases r with
  | cons r1 rs => cases rs; exact ⟨_, rfl, r1⟩

theorem builtin_name {f : Str} {as : List D} {d : D} (e : builtinD f as = some d) : ∃ a fv, as = [a] ∧ bootBuiltins f = some fv ∧ f ≠ "__name__" ∧ f ∈ ([Str.ofString "len", Str.ofString "range", Str.ofString "max", Str.ofString "sorted", Str.ofString "str", Str.ofString "list"] : List Str) ∧
    ((∃ id, fv = .builtin id) ∨ ∃ T, fv = .type T) := by
  rcases as with _ | ⟨a, _ | ⟨b, as⟩⟩
  · exact nn e
  · by_cases h1 : f = Str.ofString "len"
    · subst h1; exact ⟨a, _, rfl, boot_len, by decide, by simp, .inl ⟨_, rfl⟩⟩
    have e : bi2 f a = some d := (if_neg h1).symm.trans e
    by_cases h2 : f = Str.ofString "range"
    · subst h2; exact ⟨a, _, rfl, PyProof.Rows.boot_range, by decide, by simp, .inr ⟨_, rfl⟩⟩
    have e : bi3 f a = some d := (if_neg h2).symm.trans e
    by_cases h3 : f = Str.ofString "max"
    · subst h3; exact ⟨a, _, rfl, PyProof.Rows.boot_max, by decide, by simp, .inl ⟨_, rfl⟩⟩
    have e : bi4 f a = some d := (if_neg h3).symm.trans e
    by_cases h4 : f = Str.ofString "sorted"
    · subst h4; exact ⟨a, _, rfl, PyProof.Rows.boot_sorted, by decide, by simp, .inl ⟨_, rfl⟩⟩
    have e : bi5 f a = some d := (if_neg h4).symm.trans e
    by_cases h5 : f = Str.ofString "str"
    · subst h5; exact ⟨a, _, rfl, PyProof.Rows.boot_str, by decide, by simp, .inr ⟨_, rfl⟩⟩
    have e : bi6 f a = some d := (if_neg h5).symm.trans e
    by_cases h6 : f = Str.ofString "list"
    · subst h6; exact ⟨a, _, rfl, PyProof.Rows.boot_list, by decide, by simp, .inr ⟨_, rfl⟩⟩
    exact nn ((if_neg h6).symm.trans e)
  · exact nn e

theorem binD_loc {op : Operator} {a b d : D} (e : binD op a b = some d) : a.isLoc = false ∧ b.isLoc = false := by
  exact binD_elim (m := fun _ a b _ => a.isLoc = false ∧ b.isLoc = false) (fun _ _ => ⟨rfl, rfl⟩) (fun _ _ => ⟨rfl, rfl⟩) (fun _ _ _ => ⟨rfl, rfl⟩) (fun _ _ _ => ⟨rfl, rfl⟩) (fun _ _ _ => ⟨rfl, rfl⟩) e

theorem methD_kinds {m : Str} {a d : D} {ds : List D} (e : methD m a ds = some d) : ((∃ l, a = .lst l) ∧ m ≠ Str.ofString "get") ∨ ((∃ kvs, a = .dct kvs) ∧ m = Str.ofString "get") := by
  cases a with
  | lst l =>
    refine .inl ⟨⟨_, rfl⟩, ?_⟩
    rintro rfl
    rcases ds with _ | ⟨x, _ | ⟨y, ds⟩⟩
    · exact nn e
    · by_cases h : l.length ≤ 1000
      · have e := (if_pos h).symm.trans e
        have e := (if_neg (by decide)).symm.trans e
        exact nn ((if_neg (by decide)).symm.trans e)
      · exact nn ((if_neg h).symm.trans e)
    · exact nn e
  | dct kvs =>
    refine .inr ⟨⟨_, rfl⟩, ?_⟩
    rcases ds with _ | ⟨x, _ | ⟨y, _ | ⟨z, ds⟩⟩⟩
    · exact nn e
    · exact nn e
    · by_cases h : m = Str.ofString "get"
      · exact h
      · exact nn ((if_neg h).symm.trans e)
    · exact nn e
  | _ => exact nn e
theorem head_kinds {m : Str} {a : D} (e : methHead m a = true) : ((∃ l, a = .lst l) ∧ m ≠ Str.ofString "get") ∨ ((∃ kvs, a = .dct kvs) ∧ m = Str.ofString "get") := by
  cases a with
  | lst l =>
    refine .inl ⟨⟨_, rfl⟩, ?_⟩
    rintro rfl
    exact absurd (show (decide (Str.ofString "get" = Str.ofString "count") || decide (Str.ofString "get" = Str.ofString "index") || decide (Str.ofString "get" = Str.ofString "append") || decide (Str.ofString "get" = Str.ofString "pop") || decide (Str.ofString "get" = Str.ofString "extend")) = true from e) (by decide)
  | dct kvs => exact .inr ⟨⟨_, rfl⟩, of_decide_eq_true e⟩
  | _ => exact no e
theorem methS_not_get {m : Str} {l l' ds : List D} {d : D} (e : methS m l ds = some (d, l')) : m ≠ Str.ofString "get" := by
  rintro rfl
  rcases ds with _ | ⟨x, _ | ⟨y, ds⟩⟩
  · have e : (if Str.ofString "get" = Str.ofString "pop" then (match l.getLast? with | some x => if l.length ≤ 1000 then some (x, l.dropLast) else none | none => none) else none) = some (d, l') := e
    exact nn ((if_neg (by decide)).symm.trans e)
  · have e : (if Str.ofString "get" = Str.ofString "append" then (if l.length ≤ 1000 && !x.isLoc then some (.nil, l ++ [x]) else none)
      else if Str.ofString "get" = Str.ofString "extend" then (match x with | .lst r => if l.length + r.length ≤ 1000 then some (.nil, l ++ r) else none | _ => none)
      else none) = some (d, l') := e
    have e := (if_neg (by decide)).symm.trans e
    exact nn ((if_neg (by decide)).symm.trans e)
  · exact nn e

theorem stars_none {env : Env} {pos : Pos} : ∀ {args : List Expr}, (∀ e ∈ args, ∀ t p, e ≠ .Starred t p) → ((backTo pos (starEach args env)).all fun x => !x.1) = true ∧ ((backTo pos (starEach args env)).any (·.1)) = false
  | [], _ => ⟨rfl, rfl⟩
  | x :: xs, h => by
    rw [starEach_cons (h x List.mem_cons_self)]
    obtain ⟨h1, h2⟩ := stars_none (env := env) (pos := pos) (args := xs) fun e he => h e (List.mem_cons_of_mem _ he)
    unfold backTo at h1 h2 ⊢
    simp only [List.map_cons, List.all_cons, List.any_cons, Bool.not_false, Bool.true_and, Bool.false_or]
    exact ⟨h1, h2⟩

section
variable {B : Bs} {F : Fns} {r n : Nat}

theorem all_not_star {m : Nat} {nm : Names} {es : List Expr} (h : es.all (wfE m nm) = true) : ∀ e ∈ es, ∀ t p, e ≠ .Starred t p := fun e he => not_star (List.all_eq_true.mp h e he)

theorem argsGo (hEs : SndEs B F r n) {Γ : Ctx} {args : List Expr} {σ σ' : Store} {ds : List D} (ev : evEs n F Γ args σ = some (ds, σ')) {m : Nat} {A : Around} {env : Env} {Φ : PH} {α : List Addr} {s : Shared} {E : Value → Shared → Prop} {Q : Args → Shared → Prop} {f : Value} {pos : Pos}
    (hr : Room r A) (o : Ok B Φ α σ s.heap) (nm : Nm B Φ α env Γ s.heap) (wf : args.all (wfE m env.scope.names) = true) (g : GoEs B Φ α σ' ds s fun vs s' => Q ⟨vs, []⟩ s') :
    wpAny (model B.prog B.w) A (evalArgs f true (backTo pos (starEach args env)) []) Q E s := by
  cases args with
  | nil =>
    have : ds = [] ∧ σ' = σ := by
      cases n with
      | zero => exact nn ev
      | succ n =>
        simp only [evEs, Option.some.injEq, Prod.mk.injEq] at ev
        exact ⟨ev.1.symm, ev.2.symm⟩
    obtain ⟨rfl, rfl⟩ := this
    exact evalArgs_none (g [] s.heap s.toks Φ .refl o .nil)
  | cons x xs =>
    have := hEs _ _ _ _ _ ev m A env Φ α s E _ hr o nm wf g pos
    rw [starEach_cons (all_not_star wf x List.mem_cons_self)] at this ⊢
    exact Calls.evalArgs_plain this

theorem args_r {m : Nat} {nm : Names} {es : List Expr} (h : es.all (wfE m nm) = true) {env : Env} {pos : Pos} : (backTo pos (starEach es env)).any (·.1) = false := (stars_none (all_not_star h)).2

theorem call_fn (hF : FnsOk B r F) (hEs : SndEs B F r n) {Γ : Ctx} {f : Str} {px : Pos} {args : List Expr} {σ σ1 σ' : Store} {ds : List D} {d : D} {fn : Fn} (e1 : evEs n F Γ args σ = some (ds, σ1)) (hf : F f = some fn) (e2 : fn ds σ1 = some (d, σ'))
    {m : Nat} {A : Around} {env : Env} {Φ : PH} {α : List Addr} {s : Shared} {E Q : Value → Shared → Prop} {pos : Pos} (hr : Room r A) (o : Ok B Φ α σ s.heap) (nm : Nm B Φ α env Γ s.heap) (hg : okGlobal env.scope.names f = true) (wf : args.all (wfE m env.scope.names) = true) (g : GoE B Φ α σ' d s Q) :
    wpAny (model B.prog B.w) A (eval (.Call (.Name f px) args [] pos) env) Q E s := by
  simp only [okGlobal, Bool.and_eq_true, Bool.not_eq_true', beq_iff_eq] at hg
  obtain ⟨fa, ob, fd, hmg, hob, hfd, hok⟩ := hF.fn f fn hf
  show wpAny _ _ (eval (.Name f px) env >>= fun v => callWith pos v [] (backTo pos (starEach args env)) []) _ _ _
  refine wpAny_bind (Calls.Name_function_global nm.kind hg.2 (Calls.loadGlobal_global (by rw [nm.glob]; exact o.ns) hmg ?_) hg.1)
  refine Calls.callWith_function (argsGo hEs e1 hr o nm wf fun vs h' tk Φ' c o' rvs => ⟨⟨o'.keep0 _ _ hob, hfd⟩, ?_⟩)
  exact hok A Φ' α σ1 _ vs ds d σ' E Q hr o' rvs e2 (g.go c)

theorem call_builtin (hF : FnsOk B r F) (hEs : SndEs B F r n) {Γ : Ctx} {f : Str} {px : Pos} {args : List Expr} {σ σ' : Store} {ds as : List D} {d : D} (e1 : evEs n F Γ args σ = some (ds, σ')) (e2 : ds.mapM (deref σ') = some as) (e3 : builtinD f as = some d)
    {m : Nat} {A : Around} {env : Env} {Φ : PH} {α : List Addr} {s : Shared} {E Q : Value → Shared → Prop} {pos : Pos} (hr : Room r A) (o : Ok B Φ α σ s.heap) (nm : Nm B Φ α env Γ s.heap) (hg : okGlobal env.scope.names f = true) (wf : args.all (wfE m env.scope.names) = true) (g : GoE B Φ α σ' d s Q) :
    wpAny (model B.prog B.w) A (eval (.Call (.Name f px) args [] pos) env) Q E s := by
  simp only [okGlobal, Bool.and_eq_true, Bool.not_eq_true', beq_iff_eq] at hg
  obtain ⟨a, fv, rfl, hfv, hne, hmem, hkind⟩ := builtin_name e3
  obtain ⟨d1, rfl, hd1⟩ : ∃ d1, ds = [d1] ∧ deref σ' d1 = some a := by
    match ds, e2 with
    | [], e2 => simp at e2
    | [d1], e2 =>
      refine ⟨d1, rfl, ?_⟩
      cases hh : deref σ' d1 with
      | none => simp [hh] at e2
      | some a' => simp [hh] at e2; rw [e2]
    | d1 :: d2 :: ds, e2 =>
      exfalso
      rw [List.mapM_cons, List.mapM_cons] at e2
      cases hh : deref σ' d1 with
      | none => simp [hh] at e2
      | some a1 =>
        cases hh2 : deref σ' d2 with
        | none => simp [hh, hh2] at e2
        | some a2 =>
          cases hh3 : ds.mapM (deref σ') with
          | none => simp [hh, hh2, hh3] at e2
          | some a3 => simp [hh, hh2, hh3] at e2
  show wpAny _ _ (eval (.Name f px) env >>= fun v => callWith pos v [] (backTo pos (starEach args env)) []) _ _ _
  refine wpAny_bind (Calls.Name_function_global nm.kind hg.2 (Calls.loadGlobal_builtin (by rw [nm.glob]; exact o.ns) (hF.free f hmem) (by rw [nm.bltn]; exact o.nsb) (by rw [B.boots f hne]; exact hfv) ?_) hg.1)
  have go : ∀ vs h' tk Φ', Chg (· ∈ α) Φ Φ' s.heap h' → Ok B Φ' α σ' h' → RepVL B.w Φ' α vs [d1] → wpAny (model B.prog B.w) A (call fv vs) Q E { s with heap := h', toks := tk } := fun vs h' tk Φ' c o' rvs => by
    obtain ⟨v, rfl, rv⟩ := rvs.one
    obtain ⟨hat, _, _⟩ := o'.deref rv hd1
    exact builtin_at (s := { s with heap := h', toks := tk }) o'.seen o'.low hr.1 (by have := hr.units; omega) hat e3 hfv ((g.go (tk := tk) c).yields o')
  rcases hkind with ⟨id, rfl⟩ | ⟨T, rfl⟩
  · exact Calls.callWith_builtin (args_r wf) (argsGo hEs e1 hr o nm wf fun vs h' tk Φ' c o' rvs => go vs h' tk Φ' c o' rvs)
  · exact PyProof.Rows.callWith_type (args_r wf) (argsGo hEs e1 hr o nm wf fun vs h' tk Φ' c o' rvs => go vs h' tk Φ' c o' rvs)

theorem deref_of {σ : Store} {k : Nat} {a : D} (h : σ[k]? = some a) (hn : a ≠ .nil) : deref σ (.loc k) = some a := by
  show (match σ[k]? with
    | some .nil => none
    | r => r) = some a
  rw [h]
  cases a with
  | nil => exact absurd rfl hn
  | _ => rfl
theorem meth_loc {name : Str} {k : Nat} {ds : List D} {σ σ' : Store} {d : D} (e : (match D.loc k with
    | .loc k => match σ[k]? with
      | some (.lst l) => match methS name l ds with
        | some (d, l') => some (d, σ.set k (.lst l'))
        | none => (methD name (.lst l) ds).map fun d => (d, σ)
      | some a => (methD name a ds).map fun d => (d, σ)
      | none => none
    | a => (methD name a ds).map fun d => (d, σ)) = some (d, σ')) :
    (∃ l, σ[k]? = some (.lst l) ∧ ((∃ d' l', methS name l ds = some (d', l') ∧ d' = d ∧ σ.set k (.lst l') = σ') ∨ ∃ d', methD name (.lst l) ds = some d' ∧ d' = d ∧ σ = σ')) ∨
    ∃ a, (∀ l, a ≠ .lst l) ∧ σ[k]? = some a ∧ ∃ d', methD name a ds = some d' ∧ d' = d ∧ σ = σ' := by
  have e : (match σ[k]? with
      | some (.lst l) => match methS name l ds with
        | some (d, l') => some (d, σ.set k (.lst l'))
        | none => (methD name (.lst l) ds).map fun d => (d, σ)
      | some a => (methD name a ds).map fun d => (d, σ)
      | none => none) = some (d, σ') := e
  cases h : σ[k]? with
  | none => rw [h] at e; exact nn e
  | some a =>
    rw [h] at e
    have other : (∀ l, a ≠ .lst l) → ((methD name a ds).map fun d => (d, σ)) = some (d, σ') → ∃ a', (∀ l, a' ≠ .lst l) ∧ some a = some a' ∧ ∃ d', methD name a' ds = some d' ∧ d' = d ∧ σ = σ' := fun hn e => by
      obtain ⟨d', h1, h2⟩ := msome e
      exact ⟨a, hn, rfl, d', h1, Prod.mk.inj h2⟩
    cases a with
    | lst l =>
      refine .inl ⟨l, rfl, ?_⟩
      have e : (match methS name l ds with
        | some (d, l') => some (d, σ.set k (.lst l'))
        | none => (methD name (.lst l) ds).map fun d => (d, σ)) = some (d, σ') := e
      cases hm : methS name l ds with
      | some x =>
        rw [hm] at e
        exact .inl ⟨x.1, x.2, rfl, psome e⟩
      | none =>
        rw [hm] at e
        obtain ⟨d', h1, h2⟩ := msome e
        exact .inr ⟨d', h1, Prod.mk.inj h2⟩
    | _ => exact .inr (other (fun l q => by injection q) e)
theorem meth_plain {name : Str} {p a0 : D} {ds : List D} {σ1 σ σ' : Store} {d : D} (hn : ¬ ∃ k, p = .loc k) (e2 : deref σ1 p = some a0) (e : (match (generalizing := false) p with
    | .loc k => match σ[k]? with
      | some (.lst l) => match methS name l ds with
        | some (d, l') => some (d, σ.set k (.lst l'))
        | none => (methD name (.lst l) ds).map fun d => (d, σ)
      | some a => (methD name a ds).map fun d => (d, σ)
      | none => none
    | a => (methD name a ds).map fun d => (d, σ)) = some (d, σ')) : p.isLoc = false ∧ a0 = p ∧ ∃ d', methD name p ds = some d' ∧ d' = d ∧ σ = σ' := by
  have fin : ((methD name p ds).map fun d => (d, σ)) = some (d, σ') → ∃ d', methD name p ds = some d' ∧ d' = d ∧ σ = σ' := fun e => by
    obtain ⟨d', h1, h2⟩ := msome e
    exact ⟨d', h1, Prod.mk.inj h2⟩
  cases p with
  | loc k => exact absurd ⟨k, rfl⟩ hn
  | _ => exact ⟨rfl, (Option.some.inj e2).symm, fin e⟩
section
variable {A : Around} {Φ : PH} {α : List Addr} {σ σ' : Store} {s : Shared} {E Q : Value → Shared → Prop} {T id : String} {name : Str} {v : Value} {p a0 : D} {ds : List D} {vs : List Value} {d : D}
theorem meth_plain_call (hr : Room r A) (o : Ok B Φ α σ s.heap) {a : D} (ra : AtH B.w Φ s.heap v a) (rs : RepL B.w Φ vs ds) (hm : methD name a ds = some d) (hT : KindT T name) (slot : Slot T name id) (g : GoE B Φ α σ d s Q) : wpAny (model B.prog B.w) A (call (.builtin id) (v :: vs)) Q E s := by
  obtain ⟨T', id', hk, slot', hcall⟩ := meth_at (prog := B.prog) (A := A) (E := E) o.seen (by have := hr.units; omega) ra rs hm (g.yields o)
  obtain rfl := hk.unique hT
  rw [← slot_inj slot' slot]
  exact hcall
theorem meth_set_call (o : Ok B Φ α σ s.heap) {k : Nat} {a : Addr} {l l' : List D} (ha : α[k]? = some a) (hσ : σ[k]? = some (.lst l)) (rs : RepL B.w Φ vs ds) (hm : methS name l ds = some (d, l')) (hT : KindT T name) (slot : Slot T name id) (g : GoE B Φ α (σ.set k (.lst l')) d s Q) :
    wpAny (model B.prog B.w) A (call (.builtin id) (.ref a :: vs)) Q E s := by
  obtain ⟨id', slot', hcall⟩ := meth_set (A := A) (E := E) o ha hσ rs hm g
  obtain rfl : T = "list" := hT.unique (.inl ⟨rfl, methS_not_get hm⟩)
  rw [← slot_inj slot' slot]
  exact hcall
theorem meth_fin (hr : Room r A) (o : Ok B Φ α σ s.heap) (rv : RepV B.w Φ α v p) (rvs : RepVL B.w Φ α vs ds) {σ1 : Store} (e2 : deref σ1 p = some a0) (e5 : evMeth name p ds σ = some (d, σ')) (hT : KindT T name) (slot : Slot T name id) (g : GoE B Φ α σ' d s Q) : wpAny (model B.prog B.w) A (call (.builtin id) (v :: vs)) Q E s := by
  by_cases hplain : plainAll ds = true
  case neg => exact nn ((if_neg hplain).symm.trans e5)
  have e5 := (if_pos hplain).symm.trans e5
  have rs := rvs.plain hplain
  by_cases hnl : ∃ k, p = .loc k
  · obtain ⟨k, rfl⟩ := hnl
    have rv' := rv
    obtain ⟨a, ha, rfl⟩ := rv'
    rcases meth_loc e5 with ⟨l, hσ, ⟨d', l', hm, rfl, rfl⟩ | ⟨d', hm, rfl, rfl⟩⟩ | ⟨a', hne, hσ, d', hm, rfl, rfl⟩
    · exact meth_set_call o ha hσ rs hm hT slot g
    · exact meth_plain_call hr o (o.deref rv (deref_of hσ (fun q => by cases q))).1 rs hm hT slot g
    · exact meth_plain_call hr o (o.deref rv (deref_of hσ (by rintro rfl; exact nn hm))).1 rs hm hT slot g
  · obtain ⟨hpl, _, d', hm, rfl, rfl⟩ := meth_plain hnl e2 e5
    exact meth_plain_call hr o ((rv.rep hpl).at o.seen) rs hm hT slot g
end
theorem call_meth (hE : SndE B F r n) (hEs : SndEs B F r n) {Γ : Ctx} {x name : Str} {px apos pos : Pos} {args : List Expr} {σ σ1 σ2 σ' : Store} {p a0 : D} {ds : List D} {d : D} (e1 : evE n F Γ (.Name x px) σ = some (p, σ1)) (e2 : deref σ1 p = some a0) (e3 : methHead name a0 = true)
    (e4 : evEs n F Γ args σ1 = some (ds, σ2)) (e5 : evMeth name p ds σ2 = some (d, σ'))
    {m m' : Nat} {A : Around} {env : Env} {Φ : PH} {α : List Addr} {s : Shared} {E Q : Value → Shared → Prop} (hr : Room r A) (o : Ok B Φ α σ s.heap) (nm : Nm B Φ α env Γ s.heap) (wfx : wfE m' env.scope.names (.Name x px) = true) (wf : args.all (wfE m env.scope.names) = true)
    (hlen : args.length < 30) (hline : (apos.endLine == pos.line) = true) (g : GoE B Φ α σ' d s Q) :
    wpAny (model B.prog B.w) A (eval (.Call (.Attribute (.Name x px) name apos) args [] pos) env) Q E s := by
  obtain ⟨st1, st2⟩ := stars_none (env := env) (pos := pos) (all_not_star wf)
  refine wpAny_Call_method_late rfl ?_ hline rfl ?_
  · rw [st1]
    simp [show backToKw pos (keywordEach [] env) = [] from rfl]
    omega
  refine hE _ _ _ _ _ e1 m' A env Φ α s _ _ hr o nm wfx fun v h1 tk1 Φ1 c1 o1 rv => ?_
  obtain ⟨hat, _, _⟩ := o1.deref rv e2
  have fin : ∀ T id, KindT T name → Slot T name id → wpAny (model B.prog B.w) A (callWith pos (.builtin id) [v] (backTo pos (starEach args env)) []) Q E { s with heap := h1, toks := tk1 } := by
    intro T id hT slot
    refine Calls.callWith_builtin st2 (argsGo hEs e4 hr o1 (nm.chg c1) wf fun vs h2 tk2 Φ2 c2 o2 rvs => ?_)
    exact meth_fin (s := { s with heap := h2, toks := tk2 }) hr o2 (rv.mono (α := α) c2.mono) rvs e2 e5 hT slot (g.go (c1.trans c2))
  rcases head_kinds e3 with ⟨⟨l, rfl⟩, hget⟩ | ⟨⟨l, rfl⟩, hget⟩
  · obtain ⟨id, slot, hty⟩ := head_list e3
    obtain ⟨a, us, c, rfl, hg, _, rl⟩ := hat.lst_inv
    exact ⟨"list", id, PySem.F.plainAttrs_list, slot, hty, ⟨_, hg, rfl⟩, fun b eb => by injection eb with eb; subst eb; exact ⟨_, hg, rfl⟩, fin "list" id (.inl ⟨rfl, hget⟩) slot⟩
  · obtain ⟨id, slot, hty⟩ := head_dict e3
    obtain ⟨a, us, c, rfl, hg, rl⟩ := hat.dct_inv
    exact ⟨"dict", id, PySem.F.plainAttrs_dict, slot, hty, ⟨_, hg, rfl⟩, fun b eb => by injection eb with eb; subst eb; exact ⟨_, hg, rfl⟩, fin "dict" id (.inr ⟨rfl, hget⟩) slot⟩
end
end Mine

-- SnS
namespace Mine
open PySem PySem.SeqAt PySem.MeetsSeq
set_option linter.unusedSectionVars false
set_option linter.unusedSimpArgs false
set_option linter.unusedVariables false

theorem okName_of {nm : Names} {x : Str} (h : okName nm x = true) : (x == ("__debug__" : Str)) = false ∧ (x == ("__classdict__" : Str)) = false ∧ (nm.lookup x = some .local ∨ nm.lookup x = some .cell ∨ nm.lookup x = some .free ∨ nm.lookup x = some .globalImplicit) := by
  simp only [okName, Bool.and_eq_true, Bool.not_eq_true'] at h
  refine ⟨h.1.1, h.1.2, ?_⟩
  have := h.2
  split at this
  · left; assumption
  · right; left; assumption
  · right; right; left; assumption
  · right; right; right; assumption
  · cases this

theorem wfE_sub {m : Nat} {nm : Names} {v i : Expr} {p : Pos} (h : wfE (m + 1) nm (.Subscript v i p) = true) (hi : ∀ lo hi q, i ≠ .Slice lo hi none q) : wfE m nm v = true ∧ wfE m nm i = true := by
  cases i
  case Slice lo hi' st q =>
    cases st with
    | none => exact absurd rfl (hi _ _ _)
    | some st =>
      have h2 : wfE m nm v = true ∧ wfE m nm (.Slice lo hi' (some st) q) = true := (Bool.and_eq_true_iff (x := wfE m nm v)).mp h
      cases m <;> exact no h2.2
  all_goals exact (Bool.and_eq_true_iff (x := wfE m nm v)).mp h

theorem Chg.then_fresh {X Y : Addr → Prop} {Φ Φ' Φ'' : PH} {h h' h'' : Heap} (c : Chg X Φ Φ' h h') (d : Chg Y Φ' Φ'' h' h'') (hY : ∀ b, Y b → h.get? b = none) : Chg X Φ Φ'' h h'' where
  keep := fun a o hx e => d.keep a o (fun q => by rw [hY a q] at e; cases e) (c.keep a o hx e)
  mono := fun a o e => d.mono a o (c.mono a o e)
  new := fun a o hx e => (d.new a o (fun q => by rw [hY a q] at e; cases e) (c.keep a o hx e)).trans (c.new a o hx e)

section
variable {B : Bs} {F : Fns} {r n : Nat}

theorem snd_slice (hE : SndE B F r n) (hO : SndO B F r n) {Γ : Ctx} {v : Expr} {lo hi : Option Expr} {q p : Pos} {σ σ' : Store} {d : D} {m : Nat} {A : Around} {env : Env} {Φ : PH} {α : List Addr} {s : Shared} {E Q : Value → Shared → Prop}
    (ev : evE (n + 1) F Γ (.Subscript v (.Slice lo hi none q) p) σ = some (d, σ')) (hr : Room r A) (o : Ok B Φ α σ s.heap) (nm : Nm B Φ α env Γ s.heap) (w1 : wfE m env.scope.names v = true) (w2 : lo.all (wfE m env.scope.names) = true) (w3 : hi.all (wfE m env.scope.names) = true) (g : GoE B Φ α σ' d s Q) :
    wpAny (model B.prog B.w) A (eval (.Subscript v (.Slice lo hi none q) p) env) Q E s := by
  obtain ⟨⟨a, σ1⟩, e1, ev⟩ := bsome (eE_slice.symm.trans ev)
  obtain ⟨⟨lo, σ2⟩, e2, ev⟩ := bsome ev
  obtain ⟨⟨hi, σ3⟩, e3, ev⟩ := bsome ev
  obtain ⟨a', e4, ev⟩ := bsome ev
  obtain ⟨d', e5, e6⟩ := msome ev
  obtain ⟨rfl, rfl⟩ := Prod.mk.inj e6
  refine PyProof.Rows.Subscript_ (hE _ _ _ _ _ e1 m A env Φ α s _ _ hr o nm w1 fun v h1 tk1 Φ1 c1 o1 rv => wpAny_Slice ?_)
  refine hO _ _ _ _ _ e2 m A env Φ1 α _ _ _ hr o1 (nm.chg c1) w2 fun vl h2 tk2 Φ2 c2 o2 pl => hO _ _ _ _ _ e3 m A env Φ2 α _ _ _ hr o2 ((nm.chg c1).chg c2) w3 fun vu h3 tk3 Φ3 c3 o3 pu => ?_
  rw [evalPart_none]
  refine wpAny_pure ?_
  dsimp only
  have c4 : Chg (· ∈ α) Φ3 Φ3 h3 (h3.push { cls := .type "slice", data := .fields #[vl, vu, .none] }) := Chg.push _
  have o4 : Ok B Φ3 α σ3 (h3.push { cls := .type "slice", data := .fields #[vl, vu, .none] }) := o3.makes (Chg.push _) (o3.seen.push _)
  have rv3 : RepV B.w Φ3 α v a := (rv.mono c2.mono).mono c3.mono
  obtain ⟨hat, _, htup⟩ := o4.deref rv3 e4
  have hget := slice_at (prog := B.prog) (A := A) (E := E) (s := { s with heap := h3.push { cls := .type "slice", data := .fields #[vl, vu, .none] }, toks := tk3 }) o4.seen o4.low (Heap.IsSliceOf.new ..) pl pu hat e5 (fun l hl => htup l hl) ((g.go (tk := tk3) ((c1.trans c2).trans (c3.trans c4))).yields o4)
  cases a' with
  | lst l =>
    obtain ⟨q, us, k, rfl, hq, _⟩ := hat.lst_inv
    exact PyProof.Rows.tail_any (T := "list") ⟨_, hq, rfl⟩ slot_list_getitem.lookup hget rfl
  | tup l =>
    obtain ⟨q, us, k, rfl, hq, _⟩ := hat.tup_inv
    exact PyProof.Rows.tail_any (T := "tuple") ⟨_, hq, rfl⟩ PySem.F.slot_tuple_getitem.lookup hget rfl
  | _ => exact nn e5
theorem subscripted_plain {i : Expr} {v u : Value} (h : ∀ lo hi q, i ≠ .Slice lo hi none q) : subscripted i false v u = operate [v, u] (getItem v u) := by
  cases i with
  | Slice lo hi st q =>
    cases st with
    | none => exact absurd rfl (h _ _ _)
    | some st => rfl
  | _ => rfl
theorem subD_kinds {a k d : D} (e : subD a k = some d) : k.isLoc = false ∧ ((∃ l, a = .lst l) ∨ (∃ l, a = .tup l) ∨ ∃ l, a = .dct l) := by
  cases a with
  | lst l =>
    cases k with
    | int i => exact ⟨rfl, .inl ⟨_, rfl⟩⟩
    | _ => exact nn e
  | tup l =>
    cases k with
    | int i => exact ⟨rfl, .inr (.inl ⟨_, rfl⟩)⟩
    | _ => exact nn e
  | dct kvs =>
    refine ⟨?_, .inr (.inr ⟨_, rfl⟩)⟩
    cases k with
    | loc k => exact nn e
    | _ => rfl
  | _ => exact nn e
theorem snd_subs (hE : SndE B F r n) {Γ : Ctx} {v i : Expr} {p : Pos} {σ σ' : Store} {d : D} {m : Nat} {A : Around} {env : Env} {Φ : PH} {α : List Addr} {s : Shared} {E Q : Value → Shared → Prop}
    (ev : ((evE n F Γ v σ).bind fun p => (evE n F Γ i p.2).bind fun q => (deref q.2 p.1).bind fun a => (subD a q.1).map fun d => (d, q.2)) = some (d, σ')) (hns' : ∀ lo hi q, i ≠ .Slice lo hi none q) (hr : Room r A) (o : Ok B Φ α σ s.heap) (nm : Nm B Φ α env Γ s.heap) (w1 : wfE m env.scope.names v = true) (w2 : wfE m env.scope.names i = true) (g : GoE B Φ α σ' d s Q) :
    wpAny (model B.prog B.w) A (eval (.Subscript v i p) env) Q E s := by
  obtain ⟨⟨a, σ1⟩, e1, ev⟩ := bsome ev
  obtain ⟨⟨k, σ2⟩, e2, ev⟩ := bsome ev
  obtain ⟨a', e3, ev⟩ := bsome ev
  obtain ⟨d', e4, e5⟩ := msome ev
  obtain ⟨rfl, rfl⟩ := Prod.mk.inj e5
  refine PyProof.Rows.Subscript_ (hE _ _ _ _ _ e1 m A env Φ α s _ _ hr o nm w1 fun v h1 tk1 Φ1 c1 o1 rv => hE _ _ _ _ _ e2 m A env Φ1 α _ _ _ hr o1 (nm.chg c1) w2 fun u h2 tk2 Φ2 c2 o2 ru => ?_)
  have hs : subscripted i false v u = operate [v, u] (getItem v u) := subscripted_plain hns'
  obtain ⟨hat, _, _⟩ := o2.deref (rv.mono c2.mono) e3
  obtain ⟨hk, hkinds⟩ := subD_kinds e4
  have hget := sub_at (prog := B.prog) (A := A) (E := E) (s := { s with heap := h2, toks := tk2 }) o2.seen hat (ru.rep hk) e4 (by have := hr.units; omega) fun v tk r => g v h2 tk Φ2 (c1.trans c2) o2 r.repV
  rcases hkinds with ⟨l, rfl⟩ | ⟨l, rfl⟩ | ⟨l, rfl⟩
  · obtain ⟨q, us, c, rfl, hq, _⟩ := hat.lst_inv
    exact PyProof.Rows.tail_any (T := "list") ⟨_, hq, rfl⟩ slot_list_getitem.lookup hget hs
  · obtain ⟨q, us, c, rfl, hq, _⟩ := hat.tup_inv
    exact PyProof.Rows.tail_any (T := "tuple") ⟨_, hq, rfl⟩ PySem.F.slot_tuple_getitem.lookup hget hs
  · obtain ⟨q, us, c, rfl, hq, _⟩ := hat.dct_inv
    exact PyProof.Rows.tail_any (T := "dict") ⟨_, hq, rfl⟩ slot_dict_getitem.lookup hget hs
theorem sub_shape {Γ : Ctx} {v i : Expr} {p : Pos} {σ : Store} {x : Option (D × Store)} (hns' : ∀ lo hi q, i ≠ .Slice lo hi none q) (ev : evE (n + 1) F Γ (.Subscript v i p) σ = x) :
    ((evE n F Γ v σ).bind fun p => (evE n F Γ i p.2).bind fun q => (deref q.2 p.1).bind fun a => (subD a q.1).map fun d => (d, q.2)) = x := by
  cases i with
  | Slice lo hi st q =>
    cases st with
    | none => exact absurd rfl (hns' _ _ _)
    | some st => exact ev
  | _ => exact ev
theorem comp_lst {Γ : Ctx} {elt t it : Expr} {ifs : List Expr} {a : Int} {gs : List Comprehension} {sc : Scope} {pos : Pos} {σ σ' : Store} {d : D} (ev : evE (n + 1) F Γ (.ListComp elt (⟨t, it, ifs, a⟩ :: gs) sc pos) σ = some (d, σ')) : ∃ l, d = .lst l := by
  obtain ⟨_, _, e5⟩ := bsome (eE_comp.symm.trans ev)
  obtain ⟨_, _, e5⟩ := bsome e5
  obtain ⟨_, _, e5⟩ := bsome e5
  obtain ⟨q, _, e5⟩ := bsome e5
  by_cases hq : q.1.length ≤ 1000
  · exact ⟨_, (psome ((if_pos hq).symm.trans e5)).1.symm⟩
  · exact nn ((if_neg hq).symm.trans e5)
theorem snd_comp (hE : SndE B F r n) (hI : SndI B F r n) (hG : SndG B F r n) {Γ : Ctx} {elt t it : Expr} {ifs : List Expr} {a : Int} {gs : List Comprehension} {sc : Scope} {pos : Pos} {σ σ' : Store} {d : D} {m : Nat} {A : Around} {env : Env} {Φ : PH} {α : List Addr} {s : Shared} {E Q : Value → Shared → Prop}
    (ev : evE (n + 1) F Γ (.ListComp elt (⟨t, it, ifs, a⟩ :: gs) sc pos) σ = some (d, σ')) (hr : Room r A) (o : Ok B Φ α σ s.heap) (nm : Nm B Φ α env Γ s.heap) (wf : wfE (m + 1) env.scope.names (.ListComp elt (⟨t, it, ifs, a⟩ :: gs) sc pos) = true) (g : GoE B Φ α σ' d s Q) :
    wpAny (model B.prog B.w) A (eval (.ListComp elt (⟨t, it, ifs, a⟩ :: gs) sc pos) env) Q E s := by
  have hdl := comp_lst ev
  rw [eval_ListComp]
  have ha : a = 0 := by
    obtain ⟨_, _, _, _, hwg, _⟩ := wfE_comp wf
    obtain ⟨_, _, hgE, _⟩ := wfGen_shape (hwg _ List.mem_cons_self)
    injection hgE
  subst ha
  refine comp_at hE hI hG ev (use := none) hr o nm wf fun v h' tk Φ' C mm c o' rv hC ap hfr => ?_
  refine ⟨mm, hC, fun h'' hs => ?_⟩
  obtain ⟨l, rfl⟩ := hdl
  have c2 : Chg (fun b => b = C) Φ' Φ' h' h'' := Chg.ext hs.extBut rfl
  exact g v h'' tk Φ' (c.then_fresh c2 fun b e => e ▸ hfr) (o'.out c2 (o'.seen.ext hs.extBut ap.fr) fun a ha e => ap.al (e ▸ ha)) rv.repV
theorem sndE (hF : FnsOk B r F) (hE : SndE B F r n) (hEs : SndEs B F r n) (hO : SndO B F r n) (hV : SndV B F r n) (hT : SndT B F r n) (hI : SndI B F r n) (hG : SndG B F r n) : SndE B F r (n + 1) := by
  intro Γ e σ d σ' ev m A env Φ α s E Q hr o nm wf g
  cases m with
  | zero => exact no wf
  | succ m =>
  cases e with
  | Constant c k p =>
    cases c with
    | int i =>
      obtain ⟨rfl, rfl⟩ := psome (eE_int.symm.trans ev)
      exact wpAny_Constant_int (g.here o (.int _ _) _)
    | str x =>
      obtain ⟨rfl, rfl⟩ := psome (eE_str.symm.trans ev)
      exact wpAny_Constant_str (g.here o (.str _ _) _)
    | bool b =>
      obtain ⟨rfl, rfl⟩ := psome (eE_bool.symm.trans ev)
      exact wpAny_Constant_bool (g.here o (.bool _) s.toks)
    | _ => exact nn ev
  | Name x p =>
    obtain ⟨d', e1, e2⟩ := msome (eE_name.symm.trans ev)
    obtain ⟨rfl, rfl⟩ := Prod.mk.inj e2
    obtain ⟨w1, w2, w3⟩ := okName_of wf
    exact wpAny_Name (load_name o nm w3 w2 e1 fun v rv => g.here o rv s.toks) w1
  | Tuple es k p =>
    obtain ⟨⟨ds, σ1⟩, e1, e2⟩ := bsome (eE_tuple.symm.trans ev)
    obtain ⟨hc, e3⟩ := isome e2
    obtain ⟨rfl, rfl⟩ := Prod.mk.inj e3
    have hc := Bool.and_eq_true_iff.mp hc
    refine wpAny_Tuple_spliced (hEs _ _ _ _ _ e1 m A env Φ α s _ _ hr o nm wf (fun vs h' tk Φ' c o' rvs => ?_) _)
    have rl := rvs.plain hc.1
    exact ⟨by rw [rl.length]; exact Nat.le_trans (of_decide_eq_true hc.2) lines1000, ((g.go (tk := tk) c).yields o').new (o := tupO vs 0) o'.seen o'.low (.tup rl) tk⟩
  | List es p =>
    obtain ⟨⟨ds, σ1⟩, e1, e2⟩ := bsome (eE_list.symm.trans ev)
    obtain ⟨hc, e3⟩ := isome e2
    obtain ⟨rfl, rfl⟩ := Prod.mk.inj e3
    have hc := Bool.and_eq_true_iff.mp hc
    refine wpAny_List_spliced (hEs _ _ _ _ _ e1 m A env Φ α s _ _ hr o nm wf (fun vs h' tk Φ' c o' rvs => ?_) _)
    have rl := rvs.plain hc.1
    exact ⟨by rw [rl.length]; exact Nat.le_trans (of_decide_eq_true hc.2) lines1000, ((g.go (tk := tk) c).yields o').new (o := lstO vs 0) o'.seen o'.low (.lst rl) tk⟩
  | BinOp l op rr p =>
    obtain ⟨⟨a, σ1⟩, e1, ev⟩ := bsome (eE_bin.symm.trans ev)
    obtain ⟨⟨b, σ2⟩, e2, ev⟩ := bsome ev
    obtain ⟨d', e3, e4⟩ := msome ev
    obtain ⟨rfl, rfl⟩ := Prod.mk.inj e4
    have wf := (Bool.and_eq_true_iff (x := wfE m env.scope.names l)).mp wf
    obtain ⟨la, lb⟩ := binD_loc e3
    refine wpAny_BinOp (hE _ _ _ _ _ e1 m A env Φ α s _ _ hr o nm wf.1 fun v h1 tk1 Φ1 c1 o1 rv => hE _ _ _ _ _ e2 m A env Φ1 α _ _ _ hr o1 (nm.chg c1) wf.2 fun u h2 tk2 Φ2 c2 o2 ru => ?_)
    exact bin_at (s := { s with heap := h2, toks := tk2 }) o2.seen o2.low ((rv.mono c2.mono).rep la) (ru.rep lb) e3 ((g.go (tk := tk2) (c1.trans c2)).yields o2)
  | UnaryOp op e p =>
    cases op with
    | USub =>
      obtain ⟨⟨a, σ1⟩, e1, e2⟩ := bsome (eE_neg.symm.trans ev)
      cases a with
      | int i =>
        obtain ⟨rfl, rfl⟩ := psome e2
        refine wpAny_UnaryOp (hE _ _ _ _ _ e1 m A env Φ α s _ _ hr o nm wf fun v h1 tk1 Φ1 c1 o1 rv => ?_)
        obtain ⟨t, rfl⟩ := Rep.int_inv rv
        exact P.neg_int (s := { s with heap := h1, toks := tk1 }) (g _ h1 _ Φ1 c1 o1 (Rep.int _ _))
      | _ => exact nn e2
    | _ => exact nn ev
  | IfExp t b oo p =>
    obtain ⟨⟨c, σ1⟩, e1, e2⟩ := bsome (eE_if.symm.trans ev)
    have wf := (Bool.and_eq_true_iff (x := wfE m env.scope.names t && wfE m env.scope.names b)).mp wf
    have wf1 := Bool.and_eq_true_iff.mp wf.1
    refine wpAny_IfExp (hT _ _ _ _ _ e1 m A env Φ α s _ _ hr o nm wf1.1 fun h1 tk1 Φ1 c1 o1 => ?_)
    cases c
    · exact hE _ _ _ _ _ e2 m A env Φ1 α _ _ _ hr o1 (nm.chg c1) wf.2 (g.go c1)
    · exact hE _ _ _ _ _ e2 m A env Φ1 α _ _ _ hr o1 (nm.chg c1) wf1.2 (g.go c1)
  | BoolOp op es p => exact hV _ _ _ _ _ _ (eE_boolop.symm.trans ev) m A env Φ α s _ _ hr o nm wf g _
  | Compare l ops rs p =>
    rcases ops with _ | ⟨op, _ | ⟨op', ops⟩⟩
    · exact nn ev
    · rcases rs with _ | ⟨rr, _ | ⟨r', rs⟩⟩
      · exact nn ev
      · obtain ⟨⟨a, σ1⟩, e1, ev⟩ := bsome (eE_cmp.symm.trans ev)
        obtain ⟨⟨b, σ2⟩, e2, ev⟩ := bsome ev
        obtain ⟨c, e3, e4⟩ := msome ev
        obtain ⟨rfl, rfl⟩ := Prod.mk.inj e4
        have wf := (Bool.and_eq_true_iff (x := wfE m env.scope.names l)).mp wf
        have w2 : wfE m env.scope.names rr = true := (Bool.and_eq_true_iff.mp wf.2).1
        refine wpAny_Compare1 (hE _ _ _ _ _ e1 m A env Φ α s _ _ hr o nm wf.1 fun v h1 tk1 Φ1 c1 o1 rv => hE _ _ _ _ _ e2 m A env Φ1 α _ _ _ hr o1 (nm.chg c1) w2 fun u h2 tk2 Φ2 c2 o2 ru => ?_) (no_marks w2)
        exact cmp_go (s := { s with heap := h2, toks := tk2 }) hr o2 (rv.mono c2.mono) ru e3 fun tk'' => g _ h2 _ Φ2 (c1.trans c2) o2 (.bool _)
      · exact nn ev
    · exact nn ev
  | Subscript v i p =>
    by_cases hs : ∃ lo hi q, i = .Slice lo hi none q
    · obtain ⟨lo, hi, q, rfl⟩ := hs
      have wf := (Bool.and_eq_true_iff (x := wfE m env.scope.names v && lo.all (wfE m env.scope.names))).mp wf
      have wf1 := Bool.and_eq_true_iff.mp wf.1
      exact snd_slice hE hO ev hr o nm wf1.1 wf1.2 wf.2 g
    · have hns' : ∀ lo hi q, i ≠ .Slice lo hi none q := fun lo hi q hq => hs ⟨lo, hi, q, hq⟩
      obtain ⟨w1, w2⟩ := wfE_sub wf hns'
      exact snd_subs hE (sub_shape hns' ev) hns' hr o nm w1 w2 g
  | Call f args ks pos =>
    cases f with
    | Attribute ob name apos =>
      cases ks with
      | cons k ks => exact nn ev
      | nil =>
      cases ob with
      | Name x px =>
        obtain ⟨⟨p, σ1⟩, e1, ev⟩ := bsome (eE_meth.symm.trans ev)
        obtain ⟨a0, e2, e3⟩ := bsome ev
        by_cases hh : methHead name a0 = true
        · obtain ⟨⟨ds, σ2⟩, e4, e5⟩ := bsome (by rwa [if_pos hh] at e3)
          have wf := (Bool.and_eq_true_iff (x := okName env.scope.names x && args.all (wfE m env.scope.names) && decide (args.length < 30))).mp wf
          have wf1 := Bool.and_eq_true_iff.mp wf.1
          have wf2 := Bool.and_eq_true_iff.mp wf1.1
          exact call_meth hE hEs e1 e2 hh e4 e5 (m := m) (m' := 1) hr o nm wf2.1 wf2.2 (of_decide_eq_true wf1.2) wf.2 g
        · rw [if_neg hh] at e3
          exact nn e3
      | _ => exact no wf
    | Name f px =>
      cases ks with
      | cons k ks => exact nn ev
      | nil =>
      obtain ⟨⟨ds, σ1⟩, e1, e2⟩ := bsome (eE_call.symm.trans ev)
      have wf := (Bool.and_eq_true_iff (x := okGlobal env.scope.names f && args.all (wfE m env.scope.names))).mp wf
      have wf1 := Bool.and_eq_true_iff.mp wf.1
      cases hf : F f with
      | some fn =>
        rw [hf] at e2
        exact call_fn hF hEs e1 hf e2 hr o nm wf1.1 wf1.2 g
      | none =>
        rw [hf] at e2
        obtain ⟨as, e3, e4⟩ := bsome e2
        obtain ⟨d', e5, e6⟩ := msome e4
        obtain ⟨rfl, rfl⟩ := Prod.mk.inj e6
        exact call_builtin hF hEs e1 e3 e5 hr o nm wf1.1 wf1.2 g
    | _ => exact nn ev
  | ListComp elt gs sc pos =>
    rcases gs with _ | ⟨⟨t, it, ifs, a⟩, gs⟩
    · exact nn ev
    · exact snd_comp hE hI hG ev hr o nm wf g
  | _ => exact nn ev
end
end Mine

-- SnT
namespace Mine
open PySem PySem.SeqAt PySem.MeetsSeq
set_option linter.unusedSectionVars false
set_option linter.unusedSimpArgs false
set_option linter.unusedVariables false

section
variable {B : Bs} {F : Fns} {r : Nat}
structure Snd (B : Bs) (F : Fns) (r n : Nat) : Prop where
  e : SndE B F r n
  es : SndEs B F r n
  o : SndO B F r n
  v : SndV B F r n
  t : SndT B F r n
  b : SndB B F r n
  i : SndI B F r n
  g : SndG B F r n
theorem snd_all (hF : FnsOk B r F) : ∀ n, Snd B F r n
  | 0 => ⟨fun _ _ _ _ _ e => nn e, fun _ _ _ _ _ e => nn e, fun _ _ _ _ _ e => nn e, fun _ _ _ _ _ _ e => nn e, fun _ _ _ _ _ e => nn e, fun _ _ _ _ _ _ e => nn e,
      fun _ _ _ _ _ e => nn e, fun _ _ _ _ _ _ e => nn e⟩
  | n + 1 =>
    have x := snd_all hF n
    ⟨sndE hF x.e x.es x.o x.v x.t x.i x.g, sndEs x.e x.es, sndO x.e, sndV x.e x.v, sndT x.e x.b, sndB x.t x.b, sndI x.t x.i, sndG x.e x.i x.g⟩
end

noncomputable def XS (α : List Addr) (env : Env) (b : Addr) : Prop := b ∈ α ∨ ∃ x, slotOf env x b

theorem Chg.and {X Y : Addr → Prop} {Φ Φ' Φ'' : PH} {h h' h'' : Heap} (c : Chg X Φ Φ' h h') (d : Chg Y Φ' Φ'' h' h'') (hY : ∀ b, Y b → X b ∨ h.get? b = none) : Chg X Φ Φ'' h h'' where
  keep := fun a o hx e => d.keep a o (fun q => (hY a q).elim hx fun q => by rw [q] at e; cases e) (c.keep a o hx e)
  mono := fun a o e => d.mono a o (c.mono a o e)
  new := fun a o hx e => (d.new a o (fun q => (hY a q).elim hx fun q => by rw [q] at e; cases e) (c.keep a o hx e)).trans (c.new a o hx e)

section
variable {B : Bs} {Φ Φ' Φ0 : PH} {α α0 β : List Addr} {σ σ' : Store} {h h' h0 : Heap} {env : Env} {Γ Γ' Γ0 : Ctx}

theorem XS.ext (hβ : ∀ b ∈ β, h.get? b = none) {b : Addr} (x : XS (α ++ β) env b) : XS α env b ∨ h.get? b = none := by
  rcases x with x | x
  · rcases List.mem_append.mp x with x | x
    · exact .inl (.inl x)
    · exact .inr (hβ b x)
  · exact .inl (.inr x)
theorem in_ext (hβ : ∀ b ∈ β, h.get? b = none) {b : Addr} (x : b ∈ α ++ β) : b ∈ α ∨ h.get? b = none := by
  rcases List.mem_append.mp x with x | x
  · exact .inl x
  · exact .inr (hβ b x)

theorem Nm.moreF (n : Nm B Φ α env Γ h) (n0 : Nm B Φ0 α0 env Γ0 h0) (hβ : ∀ b ∈ β, h0.get? b = none) : Nm B Φ (α ++ β) env Γ h where
  kind := n.kind
  glob := n.glob
  bltn := n.bltn
  loc := let ⟨m, a, f⟩ := n.loc; ⟨m, a, fun x d k e => let ⟨v, p, q⟩ := f x d k e; ⟨v, p, q.more β⟩⟩
  locΦ := n.locΦ
  locα := fun q => by
    rcases List.mem_append.mp q with q | q
    · exact n.locα q
    · obtain ⟨x, hx⟩ := n0.locAlive
      rw [hβ _ q] at hx; cases hx
  cell := fun x k a b => by
    obtain ⟨c, v, q1, q2, q3, q4, q5, q6⟩ := n.cell x k a b
    obtain ⟨c', v', p1, ⟨ob, p2, _⟩, _⟩ := n0.cell x k a b
    refine ⟨c, v, q1, q2, q3, fun q => ?_, q5, fun d e => let ⟨u, w1, w2⟩ := q6 d e; ⟨u, w1, w2.more β⟩⟩
    rcases List.mem_append.mp q with q | q
    · exact q4 q
    · rw [q1] at p1; cases p1
      rw [hβ _ q] at p2; cases p2
  apart := n.apart
  glo := n.glo

theorem Ok.snoc (o : Ok B Φ α σ h) {a : Addr} {ob : Obj} {d : D} (hg : h.get? a = some ob) (hΦ : Φ a = none) (ha : a ∉ α) (hs : a ≠ sysModules) (c : Cont B.w Φ ob d) (hd : (∃ l, d = .lst l) ∨ ∃ l, d = .dct l) :
    Ok B Φ (α ++ [a]) (σ ++ [d]) h where
  base := o.base
  seen := o.seen
  len := by simp [o.len]
  nodup := by
    rw [List.nodup_append]
    refine ⟨o.nodup, by simp, fun x hx y hy => ?_⟩
    simp only [List.mem_singleton] at hy
    subst hy
    rintro rfl
    exact ha hx
  live := fun b hb => by
    rcases List.mem_append.mp hb with hb | hb
    · exact o.live b hb
    · simp only [List.mem_singleton] at hb; subst hb; exact ⟨ob, hg⟩
  cell := fun k b d' hb hd' => by
    rcases Nat.lt_or_ge k α.length with hk | hk
    · rw [List.getElem?_append_left hk] at hb
      rw [List.getElem?_append_left (by rw [← o.len]; exact hk)] at hd'
      exact o.cell k b d' hb hd'
    · rw [List.getElem?_append_right hk] at hb
      rw [List.getElem?_append_right (by rw [← o.len]; exact hk)] at hd'
      rw [← o.len] at hd'
      cases hj : k - α.length with
      | zero =>
        rw [hj] at hb hd'
        simp only [List.getElem?_cons_zero, Option.some.injEq] at hb hd'
        subst hb; subst hd'
        exact .inr ⟨hd, ob, hg, hΦ, hs, c⟩
      | succ j => rw [hj] at hb; simp at hb

theorem Chg.fresh_of {a : Addr} (o : Ok B Φ' α σ h') (c : Chg (· ∈ α) Φ Φ' h h') (ha : h'.get? a = none) : h.get? a = none := by
  cases e : h.get? a with
  | none => rfl
  | some ob =>
    by_cases hm : a ∈ α
    · obtain ⟨x, hx⟩ := o.live a hm
      rw [ha] at hx; cases hx
    · rw [c.keep a ob hm e] at ha; cases ha
end

noncomputable def GoF (B : Bs) (Φ : PH) (α : List Addr) (σ' : Store) (d : D) (s : Shared) (Q : Value → Shared → Prop) : Prop :=
  ∀ a ob h' tk Φ', Chg (· ∈ α) Φ Φ' s.heap h' → Ok B Φ' α σ' h' → h'.get? a = some ob → Φ' a = none → a ∉ α → a ≠ sysModules → s.heap.get? a = none → Cont B.w Φ' ob d → ((∃ l, d = .lst l) ∨ ∃ l, d = .dct l) → Q (.ref a) { s with heap := h', toks := tk }

inductive RepP (w : World) (Φ : PH) (α : List Addr) : List (Value × Value) → List (D × D) → Prop
  | nil : RepP w Φ α [] []
  | cons {k v : Value} {dk dv : D} {vs : List (Value × Value)} {ds : List (D × D)} : RepV w Φ α k dk → RepV w Φ α v dv → RepP w Φ α vs ds → RepP w Φ α ((k, v) :: vs) ((dk, dv) :: ds)

theorem dict_pairs {prog : Program} {w : World} {Φ : PH} {α : List Addr} : ∀ {ps : List (D × D)} {vps : List (Value × Value)} {acc kvs : List (Key × D)} {l : List (Str × Value)}, dictOfPairs ps acc = some kvs → RepP w Φ α vps ps → KV w Φ Key.s l acc →
    ∃ kl, Carries (strKind prog w) vps kl ∧ KV w Φ Key.s (merged l kl) kvs := by
  intro ps
  induction ps with
  | nil =>
    intro vps acc kvs l e r x
    cases r
    obtain rfl := Option.some.inj e
    exact ⟨[], trivial, x⟩
  | cons p ps ih =>
    intro vps acc kvs l e r x
    obtain ⟨dk, dv⟩ := p
    cases r with
    | cons r1 r2 rs =>
    cases dk with
    | str k =>
      by_cases hl : dv.isLoc = true
      · exact nn ((if_pos hl).symm.trans e)
      · have e := (if_neg hl).symm.trans e
        obtain ⟨kl, h1, h2⟩ := ih e rs (x.set (by intro a b q; cases q; rfl) _ (r2.rep (Bool.eq_false_iff.mpr hl)))
        obtain ⟨t, rfl⟩ := Rep.str_inv r1
        exact ⟨(_, _) :: kl, ⟨strKind_is prog w _ t, rfl, h1⟩, h2⟩
    | _ => exact nn e

section
variable {B : Bs} {F : Fns} {r n : Nat}

theorem sndPairs (S : Snd B F r n) {m : Nat} {A : Around} {env : Env} {Γ : Ctx} {α : List Addr} {E : Value → Shared → Prop} (hr : Room r A) (pos : Pos) : ∀ (ks : List (Option Expr)) (vs : List Expr) (σ : Store) (ps : List (D × D)) (σ' : Store), evPairs n F Γ ks vs σ = some (ps, σ') →
    ∀ (Φ : PH) (s : Shared) (Q : List (Value × Value) → Shared → Prop), Ok B Φ α σ s.heap → Nm B Φ α env Γ s.heap → (ks.all fun k => match k with | some k => wfE m env.scope.names k | none => false) = true → vs.all (wfE m env.scope.names) = true →
      (∀ vps h' tk Φ', Chg (· ∈ α) Φ Φ' s.heap h' → Ok B Φ' α σ' h' → RepP B.w Φ' α vps ps → Q vps { s with heap := h', toks := tk }) → wpAny (model B.prog B.w) A (evalPairs (pairTrees ks vs env pos)) Q E s := by
  intro ks
  induction ks with
  | nil =>
    intro vs σ ps σ' e Φ s Q o nm _ _ K
    cases vs with
    | cons => exact nn e
    | nil =>
      obtain ⟨rfl, rfl⟩ := psome (eP_nil.symm.trans e)
      exact evalPairs_nil (K [] s.heap s.toks Φ .refl o .nil)
  | cons k ks ih =>
    intro vs σ ps σ' e Φ s Q o nm wk wv K
    cases k with
    | none => exact no wk
    | some k =>
    cases vs with
    | nil => exact nn e
    | cons v vs =>
      obtain ⟨⟨d1, σ1⟩, e1, e⟩ := bsome (eP_cons.symm.trans e)
      obtain ⟨⟨d2, σ2⟩, e2, e⟩ := bsome e
      obtain ⟨⟨ps', σ3⟩, e3, e⟩ := bsome e
      obtain ⟨rfl, rfl⟩ := psome e
      have wk := (Bool.and_eq_true_iff (x := wfE m env.scope.names k)).mp wk
      have wv := (Bool.and_eq_true_iff (x := wfE m env.scope.names v)).mp wv
      refine evalPairs_cons (S.e _ _ _ _ _ e1 m A env Φ α s _ _ hr o nm wk.1 fun kv h1 tk1 Φ1 c1 o1 r1 => wpAny_bind (S.e _ _ _ _ _ e2 m A env Φ1 α _ _ _ hr o1 (nm.chg c1) wv.1 fun vv h2 tk2 Φ2 c2 o2 r2 => wpAny_bind (wpAny_standAt (wpAny_pure ?_))))
      refine ih vs σ2 ps' σ3 e3 Φ2 _ _ o2 ((nm.chg c1).chg c2) wk.2 wv.2 fun vps h3 tk3 Φ3 c3 o3 r3 => ?_
      exact K _ h3 tk3 Φ3 ((c1.trans c2).trans c3) o3 (.cons ((r1.mono c2.mono).mono c3.mono) (r2.mono c3.mono) r3)

theorem sndF (S : Snd B F r n) {Γ : Ctx} {e : Expr} {σ σ' : Store} {d : D} (ev : evF n F Γ e σ = some (d, σ')) {m : Nat} {A : Around} {env : Env} {Φ : PH} {α : List Addr} {s : Shared} {E Q : Value → Shared → Prop}
    (hr : Room r A) (o : Ok B Φ α σ s.heap) (nm : Nm B Φ α env Γ s.heap) (wf : wfF m env.scope.names e = true) (K : GoF B Φ α σ' d s Q) : wpAny (model B.prog B.w) A (eval e env) Q E s := by
  cases e with
  | List es pos =>
    obtain ⟨⟨ds, σ1⟩, e1, e2⟩ := bsome (eF_list.symm.trans ev)
    obtain ⟨hc, e3⟩ := isome e2
    obtain ⟨rfl, rfl⟩ := Prod.mk.inj e3
    have hc := Bool.and_eq_true_iff.mp hc
    have hc2 := of_decide_eq_true hc.2
    refine wpAny_List_spliced (S.es _ _ _ _ _ e1 m A env Φ α s _ _ hr o nm wf (fun vs h' tk Φ' c o' rvs => ?_) _)
    have rl := rvs.plain hc.1
    have hf := fresh_none h'
    refine ⟨by rw [rl.length]; exact Nat.le_trans hc2 lines1000, ?_⟩
    refine K h'.objs.size (lstO vs 0) (h'.push (lstO vs 0)) tk Φ' (c.trans (Chg.push _)) (o'.makes (Chg.push _) (o'.seen.push _)) (Heap.get?_push_size _ rfl) (o'.seen.none_of hf) (fun q => ?_) (Nat.ne_of_gt o'.low.lt) (Chg.fresh_of o' c hf) (.lst rl) (.inl ⟨_, rfl⟩)
    obtain ⟨x, hx⟩ := o'.live _ q
    rw [hf] at hx; cases hx
  | Dict ks vs pos =>
    have ev := eF_dict.symm.trans ev
    by_cases hlen : ks.length ≤ 15
    case neg => exact nn ((if_neg hlen).symm.trans ev)
    obtain ⟨⟨ps, σ1⟩, e1, ev⟩ := bsome ((if_pos hlen).symm.trans ev)
    obtain ⟨kvs, e2, ev⟩ := bsome ev
    obtain ⟨rfl, rfl⟩ := psome ev
    obtain ⟨wf12, wf3⟩ := (Bool.and_eq_true_iff (y := decide (ks.length = vs.length))).mp wf
    obtain ⟨wf1, wf2⟩ := Bool.and_eq_true_iff.mp wf12
    have wf3 := of_decide_eq_true wf3
    have hf := fresh_none s.heap
    have haα : s.heap.objs.size ∉ α := fun q => by obtain ⟨x, hx⟩ := o.live _ q; rw [hf] at hx; cases hx
    have hsys := Nat.ne_of_gt o.low.lt
    by_cases hk : ks = []
    · subst hk
      have hv : vs = [] := by cases vs with | nil => rfl | cons => cases wf3
      subst hv
      obtain ⟨rfl, rfl⟩ := psome (eP_nil.symm.trans e1)
      obtain rfl := Option.some.inj e2
      exact wpAny_Dict_empty (K s.heap.objs.size (dctO [] 0) (s.heap.push (dctO [] 0)) s.toks Φ (Chg.push _) (o.makes (Chg.push _) (o.seen.push _)) (Heap.get?_push_size _ rfl) (o.seen.none_of hf) haα hsys hf (.dct .nil (by simp)) (.inr ⟨_, rfl⟩))
    · have hall : ks.all (·.isSome) = true := by
        rw [List.all_eq_true] at wf1 ⊢
        intro k hk
        have := wf1 k hk
        cases k with
        | none => exact no this
        | some k => rfl
      refine wpAny_Dict_walk (knd := strKind B.prog B.w) hall wf3 hk hlen ?_
      have c0 : ∀ {X : Addr → Prop}, Chg X Φ Φ s.heap (s.heap.push { cls := .type "dict", data := .dict #[] }) := Chg.push _
      have o0 : Ok B Φ α σ (s.heap.push { cls := .type "dict", data := .dict #[] }) := o.makes c0 (o.seen.push _)
      have n0 : Nm B Φ α env Γ (s.heap.push { cls := .type "dict", data := .dict #[] }) := nm.step (X := NoX) c0 id fun _ _ _ _ _ _ f => f
      refine sndPairs S hr pos ks vs σ ps σ1 e1 Φ { s with heap := s.heap.push { cls := .type "dict", data := .dict #[] } } _ o0 n0 wf1 wf2 fun vps h' tk Φ' c o' rp => ?_
      obtain ⟨kl, h1, h2⟩ := dict_pairs (prog := B.prog) e2 rp (l := []) .nil
      have hget0 : (s.heap.push { cls := .type "dict", data := .dict #[] }).get? s.heap.objs.size = some (dctO [] 0) := Heap.get?_push_size _ rfl
      have hget : h'.get? s.heap.objs.size = some (dctO [] 0) := c.keep _ _ haα hget0
      have hnone : Φ' s.heap.objs.size = none := (c.new _ _ haα hget0).trans (o.seen.none_of hf)
      refine ⟨kl, h1, ?_, fun h'' hd hs => ?_⟩
      · exact (Heap.DictOf.new (knd := strKind B.prog B.w) s.heap).elim fun ob hob => by
          obtain ⟨es, ep, g1, g2⟩ := hob
          have g1' : some (dctO [] 0) = some ob := hget0.symm.trans g1
          cases g1'
          exact ⟨_, es, ep, hget, g2⟩
      · obtain ⟨ob, g1, g2⟩ := (byStr (prog := B.prog) (w := B.w)).back hd h2
        have c2 : Chg (fun b => b = s.heap.objs.size) Φ' Φ' h' h'' := Chg.ext hs.extBut rfl
        exact K s.heap.objs.size ob h'' _ Φ' ((c0.trans c).and c2 fun b e => .inr (e ▸ hf)) (o'.out c2 (o'.seen.ext hs.extBut hnone) fun a ha e => haα (e ▸ ha)) g1 hnone haα hsys hf g2 (.inr ⟨_, rfl⟩)
  | _ => exact nn ev
end
end Mine

-- SnU
namespace Mine
open PySem PySem.SeqAt PySem.MeetsSeq
set_option linter.unusedSectionVars false
set_option linter.unusedSimpArgs false
set_option linter.unusedVariables false

theorem RepVL.more {w : World} {Φ : PH} {α : List Addr} {vs : List Value} {ds : List D} (r : RepVL w Φ α vs ds) (β : List Addr) : RepVL w Φ (α ++ β) vs ds := by
  induction r with
  | nil => exact .nil
  | cons r1 _ ih => exact .cons (r1.more β) ih

theorem wfF_not_star {m : Nat} {nm : Names} {e : Expr} (h : wfF m nm e = true) : ∀ t p, e ≠ .Starred t p := by
  rintro t p rfl
  exact not_star (m := m) h t p rfl

theorem tDisp_wf {m : Nat} {nm : Names} {mv : List Str} {t e : Expr} (h : wfF m nm e = true) (hd : tDisp mv t e = false) (hne : ∀ ks vs p, e ≠ .Dict ks vs p) : wfE (m + 1) nm e = true ∨ wfE m nm e = true := by
  cases e <;> first | exact .inr h | exact .inl h | exact absurd rfl (hne _ _ _)

theorem no_dict {n : Nat} {F : Fns} {Γ : Ctx} {x : Expr} {σ : Store} {y : D × Store} (e : evE n F Γ x σ = some y) : ∀ ks vs p, x ≠ .Dict ks vs p := by
  rintro ks vs p rfl
  cases n <;> exact nn e

section
variable {B : Bs} {F : Fns} {r n : Nat}

/-- the values of a display's side, each new list or dict a loc -/
theorem sndFs (S : Snd B F r n) {mv : List Str} {m : Nat} {A : Around} {env : Env} {Γ : Ctx} {E : Value → Shared → Prop} (hr : Room r A) (pos : Pos) : ∀ (ts es : List Expr) (σ : Store) (ds : List D) (σ' : Store), evFs n F mv Γ ts es σ = some (ds, σ') →
    ∀ (Φ : PH) (α : List Addr) (s : Shared) (Q : List Value → Shared → Prop), Ok B Φ α σ s.heap → Nm B Φ α env Γ s.heap → es.all (wfF m env.scope.names) = true →
      (∀ vs h' tk Φ' β, Chg (· ∈ α) Φ Φ' s.heap h' → (∀ b ∈ β, s.heap.get? b = none) → Ok B Φ' (α ++ β) σ' h' → RepVL B.w Φ' (α ++ β) vs ds → Q vs { s with heap := h', toks := tk }) → wpAny (model B.prog B.w) A (spliced (backTo pos (starEach es env))) Q E s := by
  intro ts
  induction ts with
  | nil =>
    intro es σ ds σ' e Φ α s Q o nm _ K
    cases es with
    | cons => exact nn e
    | nil =>
      obtain ⟨rfl, rfl⟩ := psome (eFs_nil.symm.trans e)
      exact Calls.spliced_nil (K [] s.heap s.toks Φ [] .refl (fun b hb => by cases hb) (by rw [List.append_nil]; exact o) .nil)
  | cons t ts ih =>
    intro es σ ds σ' e Φ α s Q o nm wf K
    cases es with
    | nil => exact nn e
    | cons x es =>
    have wf := (Bool.and_eq_true_iff (x := wfF m env.scope.names x)).mp wf
    rw [starEach_cons (wfF_not_star wf.1)]
    show wpAny _ _ (spliced ((false, eval x env) :: backTo pos (starEach es env))) _ _ _
    have e := eFs_cons.symm.trans e
    by_cases hdisp : tDisp mv t x = true
    · obtain ⟨⟨d1, σ1⟩, e1, e⟩ := bsome ((if_pos hdisp).symm.trans e)
      obtain ⟨⟨ds', σ2⟩, e2, e⟩ := bsome e
      obtain ⟨rfl, rfl⟩ := psome e
      refine Calls.spliced_cons (sndF S e1 hr o nm wf.1 fun a ob h1 tk1 Φ1 c1 o1 hg hΦ ha hs hfr hc hd => ?_)
      have o2 : Ok B Φ1 (α ++ [a]) (σ1 ++ [d1]) h1 := o1.snoc hg hΦ ha hs hc hd
      have hβ : ∀ b ∈ [a], s.heap.get? b = none := fun b hb => by simp only [List.mem_singleton] at hb; subst hb; exact hfr
      have n2 : Nm B Φ1 (α ++ [a]) env Γ h1 := (nm.chg c1).moreF nm hβ
      refine ih es (σ1 ++ [d1]) ds' σ2 e2 Φ1 (α ++ [a]) _ _ o2 n2 wf.2 fun vs h2 tk2 Φ2 β c2 hβ2 o3 rv => ?_
      have hβ2' : ∀ b ∈ β, s.heap.get? b = none := fun b hb => Chg.fresh_of o1 c1 (hβ2 b hb)
      have hlen : σ1.length = α.length := o1.len.symm
      refine K (.ref a :: vs) h2 tk2 Φ2 ([a] ++ β) (c1.and c2 fun b hb => in_ext hβ hb) (fun b hb => ?_) (by rw [← List.append_assoc]; exact o3) ?_
      · rcases List.mem_append.mp hb with hb | hb
        · exact hβ b hb
        · exact hβ2' b hb
      · rw [← List.append_assoc]
        refine .cons ⟨a, ?_, rfl⟩ rv
        rw [List.append_assoc, List.getElem?_append_right (by rw [hlen]; exact Nat.le_refl _), hlen, Nat.sub_self]
        rfl
    · obtain ⟨⟨d1, σ1⟩, e1, e⟩ := bsome ((if_neg hdisp).symm.trans e)
      by_cases hl : d1.isLoc = true
      · exact nn ((if_pos hl).symm.trans e)
      obtain ⟨⟨ds', σ2⟩, e2, e⟩ := bsome ((if_neg hl).symm.trans e)
      obtain ⟨rfl, rfl⟩ := psome e
      obtain ⟨m', hw⟩ : ∃ m', wfE m' env.scope.names x = true := by
        rcases tDisp_wf wf.1 (Bool.eq_false_iff.mpr hdisp) (no_dict e1) with hw | hw
        · exact ⟨_, hw⟩
        · exact ⟨_, hw⟩
      refine Calls.spliced_cons (S.e _ _ _ _ _ e1 m' A env Φ α s _ _ hr o nm hw fun v h1 tk1 Φ1 c1 o1 rv => ?_)
      refine ih es σ1 ds' σ2 e2 Φ1 α _ _ o1 (nm.chg c1) wf.2 fun vs h2 tk2 Φ2 β c2 hβ2 o3 rvs => ?_
      exact K (v :: vs) h2 tk2 Φ2 β (c1.trans c2) (fun b hb => Chg.fresh_of o1 c1 (hβ2 b hb)) o3 (.cons ((rv.mono c2.mono).more β) rvs)

theorem assignEach_cons {t : Expr} {ts : List Expr} {env : Env} (h : ∀ x p, t ≠ .Starred x p) : assignEach (t :: ts) env = (false, assign t env) :: assignEach ts env := by
  cases t <;> first | rfl | exact absurd rfl (h _ _)

theorem assignEach_ok {env : Env} {nm : Names} : ∀ {ts : List Expr}, ts.all (okNameT nm) = true → (assignEach ts env).length = ts.length ∧ (assignEach ts env).findIdx? (·.1) = none ∧ (assignEach ts env).map (·.2) = ts.map fun t => assign t env
  | [], _ => ⟨rfl, rfl, rfl⟩
  | t :: ts, h0 => by
    have h := (Bool.and_eq_true_iff (x := okNameT nm t)).mp h0
    obtain ⟨h1, h2, h3⟩ := assignEach_ok (env := env) h.2
    have : ∀ x p, t ≠ .Starred x p := by rintro x p rfl; exact no ((Bool.and_eq_true_iff (x := okNameT nm (.Starred x p))).mp h0).1
    rw [assignEach_cons this]
    refine ⟨by simp [h1], ?_, by simp [h3]⟩
    rw [List.findIdx?_cons]
    simp [h2]

section
variable {A : Around} {E : Value → Shared → Prop} {env : Env} {α : List Addr} {σ : Store}

theorem assign_names (hr : A.handled = none) : ∀ (ts : List Expr) (ds : List D) (vs : List Value) (Γ Γ' : Ctx) (Φ : PH) (s : Shared) (Q : Unit → Shared → Prop), assignNames ts ds Γ = some Γ' → ts.all (okNameT env.scope.names) = true → RepVL B.w Φ α vs ds → Ok B Φ α σ s.heap → Nm B Φ α env Γ s.heap →
    (∀ h' tk, Chg (XS α env) Φ Φ s.heap h' → Ok B Φ α σ h' → Nm B Φ α env Γ' h' → Q () { s with heap := h', toks := tk }) → wpAny (model B.prog B.w) A (assignInOrder (ts.map fun t => assign t env) vs) Q E s := by
  intro ts
  induction ts with
  | nil =>
    intro ds vs Γ Γ' Φ s Q e _ rv o nm K
    cases ds with
    | cons => exact nn e
    | nil =>
      obtain rfl := Option.some.inj e
      exact wpAny_pure (K s.heap s.toks .refl o nm)
  | cons t ts ih =>
    intro ds vs Γ Γ' Φ s Q e wf rv o nm K
    have wf := (Bool.and_eq_true_iff (x := okNameT env.scope.names t)).mp wf
    obtain ⟨x, px, rfl, w1⟩ := okNameT_of wf.1
    cases rv with
    | nil => exact nn e
    | cons r1 rs =>
    rw [List.map_cons, assignInOrder]
    refine wpAny_bind (wpAny_holding (assign_name o nm (okTarget_kind w1) r1 fun h1 tk1 c1 o1 n1 => ?_))
    refine ih _ _ _ Γ' Φ _ Q e wf.2 rs o1 n1 fun h2 tk2 c2 o2 n2 => ?_
    exact K h2 tk2 ((c1.weak fun b hb => .inr ⟨x, hb⟩).trans c2) o2 n2

theorem assignNames_len {Γ' : Ctx} {nm : Names} : ∀ {ts : List Expr} {ds : List D} {Γ : Ctx}, assignNames ts ds Γ = some Γ' → ts.all (okNameT nm) = true → ts.length = ds.length := by
  intro ts
  induction ts with
  | nil => intro ds Γ e _; cases ds with | nil => rfl | cons => exact nn e
  | cons t ts ih =>
    intro ds Γ e w
    have w := (Bool.and_eq_true_iff (x := okNameT nm t)).mp w
    obtain ⟨x, px, rfl, w1⟩ := okNameT_of w.1
    cases ds with
    | nil => exact nn e
    | cons d ds => exact congrArg Nat.succ (ih e w.2)

theorem Chg.extAt {X : Addr → Prop} {Φ : PH} {h h' : Heap} {a : Addr} (hs : Heap.ExtBut a h h') (ha : h.get? a = none) : Chg X Φ Φ h h' :=
  ⟨fun b o n e => hs b o (fun q => by rw [q, ha] at e; cases e) e, fun _ _ e => e, fun _ _ _ _ => rfl⟩

theorem assign_tuple (hr : A.handled = none) {ts : List Expr} {k : Nat} {p : Pos} {ds : List D} {vs : List Value} {Γ Γ' : Ctx} {Φ : PH} {s : Shared} {Q : Unit → Shared → Prop} {a : Addr} {c : Nat} (e : assignNames ts ds Γ = some Γ') (wf : ts.all (okNameT env.scope.names) = true)
    (ha : s.heap.get? a = some (tupO vs c)) (rv : RepVL B.w Φ α vs ds) (o : Ok B Φ α σ s.heap) (nm : Nm B Φ α env Γ s.heap)
    (K : ∀ h' tk, Chg (XS α env) Φ Φ s.heap h' → Ok B Φ α σ h' → Nm B Φ α env Γ' h' → Q () { s with heap := h', toks := tk }) : wpAny (model B.prog B.w) A (assign (.Tuple ts k p) env (.ref a)) Q E s := by
  obtain ⟨h1, h2, h3⟩ := assignEach_ok (env := env) wf
  refine wpAny_assign_Tuple hr (isTuple_of ha) (by rw [h1, assignNames_len e wf, ← rv.length]; simp) h2 fun h' hx => ?_
  rw [h3]
  have hf := fresh_none s.heap
  have c0 : ∀ {X : Addr → Prop}, Chg X Φ Φ s.heap h' := Chg.extAt hx hf
  have o' : Ok B Φ α σ h' := o.makes c0 (o.seen.ext hx (o.seen.none_of hf))
  have n' : Nm B Φ α env Γ h' := nm.step (X := NoX) c0 id fun _ _ _ _ _ _ f => f
  have : vs.toArray.toList = vs := rfl
  rw [this]
  exact assign_names hr ts ds vs Γ Γ' Φ _ Q e wf rv o' n' fun h2 tk2 c2 o2 n2 => K h2 tk2 (c0.trans c2) o2 n2

theorem RepL.toV {w : World} {Φ : PH} {vs : List Value} {ds : List D} (r : RepL w Φ vs ds) : RepVL w Φ α vs ds := by
  induction ds generalizing vs with
  | nil => cases r; exact .nil
  | cons d ds ih => cases r with | cons r1 rs => exact .cons r1.repV (ih rs)

theorem assign_t (hr : A.handled = none) {t : Expr} {d : D} {v : Value} {Γ Γ' : Ctx} {Φ : PH} {s : Shared} {Q : Unit → Shared → Prop} (e : assignT t d Γ = some Γ') (wf : wfT env.scope.names t = true) (rv : RepV B.w Φ α v d) (o : Ok B Φ α σ s.heap) (nm : Nm B Φ α env Γ s.heap)
    (K : ∀ h' tk, Chg (XS α env) Φ Φ s.heap h' → Ok B Φ α σ h' → Nm B Φ α env Γ' h' → Q () { s with heap := h', toks := tk }) : wpAny (model B.prog B.w) A (assign t env v) Q E s := by
  cases t with
  | Name x p =>
    obtain rfl := Option.some.inj e
    exact assign_name o nm (okTarget_kind wf) rv fun h1 tk1 c1 o1 n1 => K h1 tk1 (c1.weak fun b hb => .inr ⟨x, hb⟩) o1 n1
  | Tuple ts k p =>
    cases d with
    | tup ds =>
      obtain ⟨a, vs, c, rfl, hg, _, rl⟩ := Rep.tup_inv rv
      exact assign_tuple hr e wf (o.seen _ _ hg) rl.toV o nm K
    | _ => exact nn e
  | _ => exact nn e
end
end
end Mine

-- SnV
namespace Mine
open PySem PySem.SeqAt PySem.MeetsSeq
set_option linter.unusedSectionVars false
set_option linter.unusedSimpArgs false
set_option linter.unusedVariables false

noncomputable def FlOk (w : World) (Φ : PH) (α : List Addr) : Fl → Flow → Prop
  | .next, f => f = .next
  | .brk, f => f = .brk
  | .cont, f => f = .cont
  | .ret d, f => ∃ v, f = .ret v ∧ RepV w Φ α v d

noncomputable def GoS (B : Bs) (Φ : PH) (α : List Addr) (env : Env) (fl : Fl) (Γ' : Ctx) (σ' : Store) (s : Shared) (Q : Flow → Shared → Prop) : Prop :=
  ∀ f h' tk Φ' β, Chg (XS α env) Φ Φ' s.heap h' → (∀ b ∈ β, s.heap.get? b = none) → Ok B Φ' (α ++ β) σ' h' → Nm B Φ' (α ++ β) env Γ' h' → FlOk B.w Φ' (α ++ β) fl f → Q f { s with heap := h', toks := tk }

section
variable {B : Bs} {Φ Φ' Φ1 : PH} {α β β1 : List Addr} {σ σ' σ1 : Store} {h h' h0 h1 : Heap} {env : Env} {Γ Γ' Γ1 : Ctx} {s : Shared} {fl : Fl} {Q : Flow → Shared → Prop}

theorem Chg.freshX {a : Addr} (o : Ok B Φ1 (α ++ β) σ1 h1) (n : Nm B Φ1 (α ++ β) env Γ1 h1) (c : Chg (XS α env) Φ Φ1 h h1) (ha : h1.get? a = none) : h.get? a = none := by
  cases e : h.get? a with
  | none => rfl
  | some ob =>
    by_cases hm : XS α env a
    · rcases hm with hm | ⟨x, hm⟩
      · obtain ⟨y, hy⟩ := o.live a (List.mem_append_left _ hm)
        rw [ha] at hy; cases hy
      · rcases hm with ⟨_, rfl⟩ | ⟨hk, hc⟩
        · obtain ⟨y, hy⟩ := n.locAlive
          rw [ha] at hy; cases hy
        · obtain ⟨c', v, q1, ⟨ob', q2, _⟩, _⟩ := n.cell x _ hk (.inl rfl)
          rw [hc] at q1; cases q1
          rw [ha] at q2; cases q2
    · rw [c.keep a ob hm e] at ha; cases ha

theorem GoS.go (g : GoS B Φ α env fl Γ' σ' s Q) {tk : Nat} (c : Chg (XS α env) Φ Φ1 s.heap h1) (hβ : ∀ b ∈ β1, s.heap.get? b = none) (o : Ok B Φ1 (α ++ β1) σ1 h1) (n : Nm B Φ1 (α ++ β1) env Γ1 h1) :
    GoS B Φ1 (α ++ β1) env fl Γ' σ' { s with heap := h1, toks := tk } Q := fun f h2 tk2 Φ2 β2 c2 hβ2 o2 n2 hf => by
  refine g f h2 tk2 Φ2 (β1 ++ β2) (c.and c2 fun b hb => XS.ext hβ hb) (fun b hb => ?_) (by rw [← List.append_assoc]; exact o2) (by rw [← List.append_assoc]; exact n2) (by rw [← List.append_assoc]; exact hf)
  rcases List.mem_append.mp hb with hb | hb
  · exact hβ b hb
  · exact Chg.freshX o n c (hβ2 b hb)
theorem GoS.go0 (g : GoS B Φ α env fl Γ' σ' s Q) {tk : Nat} (c : Chg (XS α env) Φ Φ1 s.heap h1) (o : Ok B Φ1 α σ1 h1) (n : Nm B Φ1 α env Γ1 h1) : GoS B Φ1 α env fl Γ' σ' { s with heap := h1, toks := tk } Q := by
  have := g.go (β1 := []) (tk := tk) c (by simp) (by simpa using o) (by simpa using n)
  simpa using this
theorem GoS.here (g : GoS B Φ α env fl Γ' σ' s Q) {f : Flow} {tk : Nat} (c : Chg (XS α env) Φ Φ1 s.heap h1) (o : Ok B Φ1 α σ' h1) (n : Nm B Φ1 α env Γ' h1) (hf : FlOk B.w Φ1 α fl f) : Q f { s with heap := h1, toks := tk } :=
  g f h1 tk Φ1 [] c (by simp) (by simpa using o) (by simpa using n) (by simpa using hf)

theorem Chg.xs (c : Chg (· ∈ α) Φ Φ' h h') : Chg (XS α env) Φ Φ' h h' := c.weak fun _ hb => .inl hb
end

noncomputable def SndS (B : Bs) (F : Fns) (r n : Nat) : Prop := ∀ (mv : List Str) (st : Stmt) (Γ : Ctx) (σ : Store) (fl : Fl) (Γ' : Ctx) (σ' : Store), exS n F mv st Γ σ = some (fl, Γ', σ') → ∀ (m : Nat) (A : Around) (env : Env) (Φ : PH) (α : List Addr) (s : Shared) (E : Value → Shared → Prop) (Q : Flow → Shared → Prop),
  Room r A → Ok B Φ α σ s.heap → Nm B Φ α env Γ s.heap → wfS m env.scope.names st = true → GoS B Φ α env fl Γ' σ' s Q → wpAny (model B.prog B.w) A (exec st env) Q E s
noncomputable def SndSs (B : Bs) (F : Fns) (r n : Nat) : Prop := ∀ (mv : List Str) (ss : List Stmt) (Γ : Ctx) (σ : Store) (fl : Fl) (Γ' : Ctx) (σ' : Store), exSs n F mv ss Γ σ = some (fl, Γ', σ') → ∀ (m : Nat) (A : Around) (env : Env) (Φ : PH) (α : List Addr) (s : Shared) (E : Value → Shared → Prop) (Q : Flow → Shared → Prop),
  Room r A → Ok B Φ α σ s.heap → Nm B Φ α env Γ s.heap → ss.all (wfS m env.scope.names) = true → GoS B Φ α env fl Γ' σ' s Q → wpAny (model B.prog B.w) A (execs ss env) Q E s

section
variable {B : Bs} {F : Fns} {r n : Nat}

theorem sndSs (hS : SndS B F r n) (hSs : SndSs B F r n) : SndSs B F r (n + 1) := by
  intro mv ss Γ σ fl Γ' σ' e m A env Φ α s E Q hr o nm wf g
  cases ss with
  | nil =>
    obtain ⟨rfl, rfl, rfl⟩ := tsome (eSs_nil.symm.trans e)
    exact wpAny_execs_nil (g.here (tk := s.toks) .refl o nm rfl)
  | cons st rest =>
    have wf := (Bool.and_eq_true_iff (x := wfS m env.scope.names st)).mp wf
    have e := eSs_cons.symm.trans e
    refine wpAny_execs_cons ?_
    cases h1 : exS n F mv st Γ σ with
    | none => rw [h1] at e; exact nn e
    | some x =>
      obtain ⟨fl1, Γ1, σ1⟩ := x
      rw [h1] at e
      refine hS mv st Γ σ fl1 Γ1 σ1 h1 m A env Φ α s _ _ hr o nm wf.1 fun f h' tk Φ' β c hβ o' n' hf => ?_
      cases fl1 with
      | next =>
        obtain rfl : f = .next := hf
        exact hSs mv rest Γ1 σ1 fl Γ' σ' e m A env Φ' (α ++ β) _ _ _ hr o' n' wf.2 (g.go c hβ o' n')
      | brk =>
        obtain ⟨rfl, rfl, rfl⟩ := tsome e
        obtain rfl : f = .brk := hf
        exact g _ h' tk Φ' β c hβ o' n' rfl
      | cont =>
        obtain ⟨rfl, rfl, rfl⟩ := tsome e
        obtain rfl : f = .cont := hf
        exact g _ h' tk Φ' β c hβ o' n' rfl
      | ret d =>
        obtain ⟨rfl, rfl, rfl⟩ := tsome e
        obtain ⟨v, rfl, rv⟩ := hf
        exact g _ h' tk Φ' β c hβ o' n' ⟨v, rfl, rv⟩

/-- swapsWith answers at once -/
theorem swaps_pure {y : D × Store} {Γ : Ctx} {σ : Store} {e : Expr} (e1 : evE n F Γ e σ = some y) (x : Str) (p : Pos) (l : Nat) (env : Env) : swapsWith e (some (.Name x p)) l env = pure false ∨ ∃ elt gs sc q b, e = .ListComp elt gs sc q ∧ swapsWith e (some (.Name x p)) l env = pure b := by
  cases e with
  | ListComp elt gs sc q => exact .inr ⟨_, _, _, _, _, rfl, rfl⟩
  | SetComp elt gs sc q => cases n <;> exact nn e1
  | DictComp k v gs sc q => cases n <;> exact nn e1
  | _ => exact .inl rfl
theorem swaps_tuple (e : Expr) (ts : List Expr) (k : Nat) (p : Pos) (l : Nat) (env : Env) : swapsWith e (some (.Tuple ts k p)) l env = pure false := by cases e <;> rfl
theorem swaps_sub (e o i : Expr) (p : Pos) (l : Nat) (env : Env) : swapsWith e (some (.Subscript o i p)) l env = pure false := by cases e <;> rfl

theorem wpAny_Assign_Tuple {A : Around} {env : Env} {ts : List Expr} {k : Nat} {p pos : Pos} {e : Expr} {s : Shared} {E : Value → Shared → Prop} {Q : Flow → Shared → Prop}
    (h : wpAny (model B.prog B.w) A (eval e env) (fun v s1 => wpAny (model B.prog B.w) A (assign (.Tuple ts k p) env v) (fun _ => Q .next) E s1) E s) (hsw : swappedStores [.Tuple ts k p] e env = pure none) :
    wpAny (model B.prog B.w) A (exec (.Assign [.Tuple ts k p] e pos) env) Q E s := by
  rw [arm_exec_Assign]
  have h1 : swapsWithSole [.Tuple ts k p] e pos.line env = pure false := swaps_tuple e ts k p pos.line env
  rw [h1, hsw]
  refine wpAny_bind (wpAny_standAt (wpAny_bind (wpAny_pure ?_)))
  simp only [Bool.false_eq_true, if_false]
  refine wpAny_bind (wpAny_mono h (fun v s1 h1 => wpAny_bind (wpAny_pure ?_)) fun _ _ x => x)
  show wpAny _ _ (assignAll v [assign (.Tuple ts k p) env] >>= fun _ => pure Flow.next) _ _ _
  exact wpAny_bind (wpAny_mono h1 (fun _ s2 h2 => wpAny_pure h2) fun _ _ x => x)

theorem cell_name {nm : Names} {t : Expr} (h : (match t with
  | .Name x _ => nm.lookup x == some .cell
  | _ => false) = true) : ∃ x p, t = .Name x p ∧ nm.lookup x = some .cell := by
  cases t with
  | Name x p => exact ⟨x, p, rfl, beq_iff_eq.mp h⟩
  | _ => exact no h
theorem not_swapped {env : Env} {ts es : List Expr} {k k' : Nat} {p p' : Pos} (h : someCell env.scope.names ts = true) : swappedStores [.Tuple ts k p] (.Tuple es k' p') env = pure none := by
  have hlen : ((ts.filterMap fun
        | .Name id pos => if env.kindOf id == some .local && pos.line == (ts.head?.map (·.pos.line)).getD 0 then some id else none
        | _ => none).length != ts.length) = true := by
    rw [bne_iff_ne]
    intro heq
    have hall : ∀ (us : List Expr) (f : Expr → Option Str), (us.filterMap f).length = us.length → ∀ t ∈ us, (f t).isSome = true := by
      intro us f
      induction us with
      | nil => simp
      | cons u us ih =>
        intro hl t ht
        rw [List.filterMap_cons] at hl
        cases hu : f u with
        | none =>
          rw [hu] at hl
          have := List.length_filterMap_le f us
          simp at hl
          omega
        | some y =>
          rw [hu] at hl
          rcases List.mem_cons.mp ht with rfl | ht
          · rw [hu]; rfl
          · exact ih (by simpa using hl) t ht
    obtain ⟨t, ht, hc⟩ := List.any_eq_true.mp h
    have := hall ts _ heq t ht
    obtain ⟨x, px, rfl, hk⟩ := cell_name hc
    have hk : env.kindOf x = some .cell := hk
    simp only [hk] at this
    simp at this
  unfold swappedStores
  simp only
  split
  · rfl
  split
  · rfl
  split
  · rfl
  · rename_i hno
    exact absurd (by rw [Bool.or_eq_true]; exact .inl hlen) hno

theorem swapped_other {env : Env} {ts : List Expr} {k : Nat} {p : Pos} {e : Expr} (h : isTup e = false) : swappedStores [.Tuple ts k p] e env = pure none := by
  cases e <;> first | rfl | exact no h.symm
end
end Mine

-- SnW
namespace Mine
open PySem PySem.SeqAt PySem.MeetsSeq
set_option linter.unusedSectionVars false
set_option linter.unusedSimpArgs false
set_option linter.unusedVariables false

theorem isSeq_iadd : isSeqSlot (some (.builtin "list.__iadd__")) = true := by decide +kernel
theorem inplace_list {M : Model} {A : Around} {E : Value → Shared → Prop} {s : Shared} {a b : Value} {Q : Value → Shared → Prop} (ha : s.TypeIs a "list") (hb : s.TypeIs b "list")
    (hc : wpAny M A (call (.builtin "list.__iadd__") [a, b]) Q E s) : wpAny M A (inplaceOp .Add a b) Q E s := by
  unfold inplaceOp
  refine wpAny_holding ?_
  have hl : typeLookup (.type "list") (dunderI "add") = pure (some (.builtin "list.__iadd__")) := PySem.F.slot_list_iadd.lookup
  have hfi : fillsInplaceSlot (.type "list") "add" (Operator.Add == .Add) = pure false := by
    unfold fillsInplaceSlot
    show (typeLookup (.type "list") (dunderI "add") >>= fun fi => pure (fi.isSome && !isSeqSlot fi)) = pure false
    rw [hl, pure_bind, isSeq_iadd]; rfl
  refine wpAny_bind (wpAny_typeOf ha (wpAny_bind (wpAny_of_eq hfi ?_)))
  show wpAny M A (if false = true then _ else _) Q E s
  rw [if_neg Bool.false_ne_true]
  refine wpAny_bind (wpAny_binaryOp1_none (nm := "add") ha hb (fillsNumberSlot_seq (id := "list.__add__") (r := none) PySem.F.slot_list_add.lookup (by decide +kernel) (by rw [typeLookup_type, builtinLookup_eq_fast]; kernel_rfl) rfl) ?_)
  refine wpAny_bind (wpAny_of_eq (seqSlot_of hl isSeq_iadd) ?_)
  exact wpAny_bind (wpAny_rule hc)

section
variable {B : Bs} {F : Fns} {r n : Nat}

theorem interactive_no {env : Env} (h : env.scope.kind = .function) : interactive env = false := by
  unfold interactive; rw [h]; rfl

theorem swaps_disp {e : Expr} (h : isDisplay e = true) (x : Str) (p : Pos) (l : Nat) (env : Env) : swapsWith e (some (.Name x p)) l env = pure false := by
  cases e <;> first | rfl | exact no h
theorem stmt_name (hF : FnsOk B r F) (S : Snd B F r n) {mv : List Str} {x : Str} {px pos : Pos} {e : Expr} {Γ Γ' : Ctx} {σ σ' : Store} {fl : Fl} (ev : exAssign n F mv (.Name x px) e Γ σ = some (fl, Γ', σ')) {m : Nat} {A : Around} {env : Env} {Φ : PH} {α : List Addr} {s : Shared} {E : Value → Shared → Prop} {Q : Flow → Shared → Prop}
    (hr : Room r A) (o : Ok B Φ α σ s.heap) (nm : Nm B Φ α env Γ s.heap) (wx : okTarget env.scope.names x = true) (wf : wfF m env.scope.names e = true) (g : GoS B Φ α env fl Γ' σ' s Q) : wpAny (model B.prog B.w) A (exec (.Assign [.Name x px] e pos) env) Q E s := by
  have hx := okTarget_kind wx
  have ev := eA_name.symm.trans ev
  by_cases hd : tDisp mv (.Name x px) e = true
  · obtain ⟨⟨d, σ1⟩, e1, ev⟩ := bsome ((if_pos hd).symm.trans ev)
    obtain ⟨rfl, rfl, rfl⟩ := tsome ev
    have hsw : swapsWith e (some (.Name x px)) pos.line env = pure false := swaps_disp ((Bool.and_eq_true_iff (x := mv.contains x)).mp hd).2 x px pos.line env
    refine wpAny_Assign_Name (sndF S e1 hr o nm wf fun a ob h1 tk1 Φ1 c1 o1 hg hΦ ha hs hfr hc hd => ?_) hsw
    have o2 : Ok B Φ1 (α ++ [a]) (σ1 ++ [d]) h1 := o1.snoc hg hΦ ha hs hc hd
    have hβ : ∀ b ∈ [a], s.heap.get? b = none := fun b hb => by simp only [List.mem_singleton] at hb; subst hb; exact hfr
    have n2 : Nm B Φ1 (α ++ [a]) env Γ h1 := (nm.chg c1).moreF nm hβ
    refine store_name (s := { s with heap := h1, toks := tk1 }) (d := .loc σ1.length) o2 n2 hx ⟨a, by rw [← o1.len, List.getElem?_append_right (Nat.le_refl _), Nat.sub_self]; rfl, rfl⟩ fun h2 tk2 c2 o3 n3 => ?_
    exact g .next h2 tk2 Φ1 [a] (c1.xs.trans (c2.weak fun b hb => .inr ⟨x, hb⟩)) hβ o3 n3 rfl
  · obtain ⟨⟨d, σ1⟩, e1, e2⟩ := bsome ((if_neg hd).symm.trans ev)
    by_cases hl : d.isLoc = true
    · exact nn ((if_pos hl).symm.trans e2)
    obtain ⟨rfl, rfl, rfl⟩ := tsome ((if_neg hl).symm.trans e2)
    have hnd := no_dict e1
    obtain ⟨m', hw⟩ : ∃ m', wfE m' env.scope.names e = true := by
      rcases tDisp_wf wf (Bool.eq_false_iff.mpr hd) hnd with hw | hw
      · exact ⟨_, hw⟩
      · exact ⟨_, hw⟩
    have plain : swapsWith e (some (.Name x px)) pos.line env = pure false → wpAny (model B.prog B.w) A (exec (.Assign [.Name x px] e pos) env) Q E s := fun hsw => by
      refine wpAny_Assign_Name (S.e _ _ _ _ _ e1 m' A env Φ α s _ _ hr o nm hw fun v h1 tk1 Φ1 c1 o1 rv => ?_) hsw
      refine store_name (s := { s with heap := h1, toks := tk1 }) o1 (nm.chg c1) hx rv fun h2 tk2 c2 o2 n2 => ?_
      exact g.here (c1.xs.trans (c2.weak fun b hb => .inr ⟨x, hb⟩)) o2 n2 rfl
    rcases swaps_pure e1 x px pos.line env with hsw | ⟨elt, gs, sc, q, b, rfl, hsw⟩
    · exact plain hsw
    cases b with
    | false => exact plain hsw
    | true =>
      cases n with
      | zero => exact nn e1
      | succ n =>
      · cases gs with
        | nil => exact nn e1
        | cons gn gs =>
        obtain ⟨gt, git, gifs, ga⟩ := gn
        have hf : ga = 0 := by
          cases m' with
          | zero => exact no hw
          | succ m' =>
            obtain ⟨_, _, hq, _⟩ := wfGen_shape ((wfE_comp hw).2.2.2.2.1 _ List.mem_cons_self)
            injection hq
        subst hf
        have S0 := snd_all hF n
        rw [exec_Assign_Name_used _ _ _ _ hsw]
        refine wpAny_bind (wpAny_standAt (wpAny_bind ?_))
        show wpAny _ A (do let _ ← comprehension (.ListComp elt (⟨gt, git, gifs, 0⟩ :: gs) sc q) sc env _ (newList []) false (eval git env) (some (assign (.Name x px) env))) _ _ s
        obtain ⟨l, rfl⟩ := comp_lst e1
        refine wpAny_bind (comp_at S0.e S0.i S0.g e1 (use := some (assign (.Name x px) env)) hr o nm hw fun v h1 tk1 Φ1 C mm c1 o1 rv hC ap hfr => ?_)
        show wpAny _ A (assign (.Name x px) env v) _ _ _
        have n1 := nm.chg c1
        refine assign_name (s := { s with heap := h1, toks := tk1 }) o1 n1 hx rv.repV fun h2 tk2 c2 o2 n2 => ?_
        have c2' : Chg (slotOf env x) Φ1 Φ1 h1 h2 := c2
        have hC2 : h2.Ns C mm := by
          obtain ⟨ob, es, ep, w1, w2⟩ := hC
          exact ⟨ob, es, ep, c2'.keep _ _ (fun q => ap.slot q rfl) w1, w2⟩
        refine ⟨mm, hC2, fun h3 hs3 => wpAny_pure (wpAny_pure ?_)⟩
        have c3 : Chg (fun b => b = C) Φ1 Φ1 h2 h3 := Chg.ext hs3.extBut rfl
        have o3 : Ok B Φ1 α σ1 h3 := o2.out c3 (o2.seen.ext hs3.extBut ap.fr) fun a ha e => ap.al (e ▸ ha)
        have n3 : Nm B Φ1 α env (upd Γ x (.lst l)) h3 := n2.step c3 (Ne.symm ap.lo) fun y kd a q1 q2 q3 => ap.ce y kd a q1 q2 q3
        exact g.here (tk := tk2) ((c1.xs.trans (c2'.weak fun b hb => .inr ⟨x, hb⟩)).and c3 fun b hb => .inr (hb ▸ hfr)) o3 n3 rfl
end
end Mine

-- SnX
namespace Mine
open PySem PySem.SeqAt PySem.MeetsSeq
set_option linter.unusedSectionVars false
set_option linter.unusedSimpArgs false
set_option linter.unusedVariables false

section
variable {B : Bs} {F : Fns} {r n : Nat}

noncomputable def wfTup (m : Nat) (nm : Names) (ts : List Expr) (e : Expr) : Bool := match e with
  | .Tuple es _ _ => es.all (wfF m nm) && someCell nm ts && decide (ts.length ≤ 3)
  | e => wfE m nm e && !isTup e

theorem isTup_of {e : Expr} (h : isTup e = true) : ∃ es k p, e = .Tuple es k p := by
  cases e with
  | Tuple es k p => exact ⟨_, _, _, rfl⟩
  | _ => exact no h
theorem wfTup_other {m : Nat} {nm : Names} {ts : List Expr} {e : Expr} (h : isTup e = false) : wfTup m nm ts e = (wfE m nm e && !isTup e) := by
  cases e with
  | Tuple es k p => exact no h.symm
  | _ => rfl
theorem assign_other {mv : List Str} {ts : List Expr} {k : Nat} {px : Pos} {e : Expr} {Γ : Ctx} {σ : Store} (h : isTup e = false) : exAssign n F mv (.Tuple ts k px) e Γ σ = ((evE n F Γ e σ).bind fun p => (assignT (.Tuple ts k px) p.1 Γ).bind fun Γ1 => some (Fl.next, Γ1, p.2)) := by
  cases e with
  | Tuple es k p => exact no h.symm
  | _ => rfl
theorem stmt_tuple (S : Snd B F r n) {mv : List Str} {ts : List Expr} {k : Nat} {px pos : Pos} {e : Expr} {Γ Γ' : Ctx} {σ σ' : Store} {fl : Fl} (ev : exAssign n F mv (.Tuple ts k px) e Γ σ = some (fl, Γ', σ')) {m : Nat} {A : Around} {env : Env} {Φ : PH} {α : List Addr} {s : Shared} {E : Value → Shared → Prop} {Q : Flow → Shared → Prop}
    (hr : Room r A) (o : Ok B Φ α σ s.heap) (nm : Nm B Φ α env Γ s.heap) (wts : ts.all (okNameT env.scope.names) = true)
    (wf : wfTup m env.scope.names ts e = true) (g : GoS B Φ α env fl Γ' σ' s Q) : wpAny (model B.prog B.w) A (exec (.Assign [.Tuple ts k px] e pos) env) Q E s := by
  by_cases ht : isTup e = true
  · obtain ⟨es, k', p', rfl⟩ := isTup_of ht
    obtain ⟨w12, w3⟩ := (Bool.and_eq_true_iff (y := decide (ts.length ≤ 3))).mp wf
    obtain ⟨w1, w2⟩ := Bool.and_eq_true_iff.mp w12
    have w3 := of_decide_eq_true w3
    obtain ⟨⟨ds, σ1⟩, e1, ev⟩ := bsome (eA_tt.symm.trans ev)
    obtain ⟨Γ1, e2, ev⟩ := bsome ev
    obtain ⟨rfl, rfl, rfl⟩ := tsome ev
    refine wpAny_Assign_Tuple ?_ (not_swapped w2)
    rw [arm_eval_Tuple]
    refine wpAny_bind (wpAny_standAt (wpAny_bind (sndFs S hr p' ts es σ ds σ1 e1 Φ α s _ o nm w1 fun vs h1 tk1 Φ1 β c1 hβ o1 rv => ?_)))
    have hts : ts.length = ds.length := assignNames_len e2 wts
    refine wpAny_newTuple (s := { s with heap := h1, toks := tk1 }) ?_ ?_
    · have hf := fresh_none h1
      have n1 : Nm B Φ1 (α ++ β) env Γ h1 := (nm.chg c1).moreF nm hβ
      have c2 : ∀ {X : Addr → Prop}, Chg X Φ1 Φ1 h1 (h1.push (tupO vs 0)) := Chg.push _
      have o2 : Ok B Φ1 (α ++ β) σ1 (h1.push (tupO vs 0)) := o1.makes c2 (o1.seen.push _)
      have n2 : Nm B Φ1 (α ++ β) env Γ (h1.push (tupO vs 0)) := n1.step (X := NoX) c2 id fun _ _ _ _ _ _ f => f
      refine assign_tuple (s := { s with heap := h1.push (tupO vs 0), toks := tk1 }) hr.1 e2 wts (Heap.get?_push_size _ rfl) rv o2 n2 fun h3 tk3 c3 o3 n3 => ?_
      exact g .next h3 tk3 Φ1 β ((c1.xs.trans c2).and c3 fun b hb => XS.ext hβ hb) hβ o3 n3 rfl
    · rw [rv.length, ← hts]
      exact Nat.le_trans w3 (Nat.le_trans (by decide) lines1000)
  · have ht' : isTup e = false := Bool.eq_false_iff.mpr ht
    have wf' : wfE m env.scope.names e = true := (Bool.and_eq_true_iff.mp ((wfTup_other ht').symm.trans wf)).1
    obtain ⟨⟨d, σ1⟩, e1, ev⟩ := bsome ((assign_other ht').symm.trans ev)
    obtain ⟨Γ1, e2, ev⟩ := bsome ev
    obtain ⟨rfl, rfl, rfl⟩ := tsome ev
    refine wpAny_Assign_Tuple (S.e _ _ _ _ _ e1 m A env Φ α s _ _ hr o nm wf' fun v h1 tk1 Φ1 c1 o1 rv => ?_) (swapped_other ht')
    exact assign_t (s := { s with heap := h1, toks := tk1 }) hr.1 e2 wts rv o1 (nm.chg c1) fun h3 tk3 c3 o3 n3 => g.here (c1.xs.trans c3) o3 n3 rfl
end
end Mine

-- SnY
namespace Mine
open PySem PySem.SeqAt PySem.MeetsSeq
set_option linter.unusedSectionVars false
set_option linter.unusedSimpArgs false
set_option linter.unusedVariables false

theorem keyOf_loc {d : D} {k : Key} (h : keyOf d = some k) : d.isLoc = false := by cases d <;> first | rfl | cases h

/-- what a match on a name's dict and a key takes -/
theorem dict_shape {α : Type} {x : Option D} {q : D} {σ : Store} {f : Nat → Key → List (Key × D) → Option α} {y : α} (h : (match x, keyOf q with
      | some (.loc k), some key => match σ[k]? with
        | some (.dct kvs) => f k key kvs
        | _ => none
      | _, _ => none) = some y) : ∃ k key kvs, x = some (.loc k) ∧ keyOf q = some key ∧ σ[k]? = some (.dct kvs) ∧ f k key kvs = some y := by
  cases x with
  | none => exact nn h
  | some d =>
  cases hk : keyOf q with
  | none =>
    rw [hk] at h
    cases d <;> exact nn h
  | some key =>
    rw [hk] at h
    cases d with
    | loc k =>
      have h : (match σ[k]? with
        | some (.dct kvs) => f k key kvs
        | _ => none) = some y := h
      cases h2 : σ[k]? with
      | none => rw [h2] at h; exact nn h
      | some d2 =>
        rw [h2] at h
        cases d2 with
        | dct kvs => exact ⟨k, key, kvs, rfl, rfl, h2, h⟩
        | _ => exact nn h
    | _ => exact nn h
theorem list_shape {α : Type} {x : Option D} {q : D} {σ : Store} {f : Nat → List D → List D → Option α} {y : α} (h : (match x, q with
      | some (.loc k), .lst r => match σ[k]? with
        | some (.lst l) => f k r l
        | _ => none
      | _, _ => none) = some y) : ∃ k r l, x = some (.loc k) ∧ q = .lst r ∧ σ[k]? = some (.lst l) ∧ f k r l = some y := by
  cases x with
  | none => exact nn h
  | some d =>
  cases d with
  | loc k =>
    cases q with
    | lst r =>
      have h : (match σ[k]? with
        | some (.lst l) => f k r l
        | _ => none) = some y := h
      cases h2 : σ[k]? with
      | none => rw [h2] at h; exact nn h
      | some d2 =>
        rw [h2] at h
        cases d2 with
        | lst l => exact ⟨k, r, l, rfl, rfl, h2, h⟩
        | _ => exact nn h
    | _ => exact nn h
  | _ => exact nn h
theorem inc_shape {α : Type} {c : Bool} {n : Nat} {x : Option D} {bi : Int} {kk : Nat} {p' : Pos} {f : Int → Int → α} {y : α} (h : (if c && n ≤ 1000 then match x, Expr.Constant (.int bi) kk p' with
            | some (.int a), .Constant (.int b) _ _ => some (f a b)
            | _, _ => none
          else none) = some y) : ∃ a, c = true ∧ n ≤ 1000 ∧ x = some (.int a) ∧ f a bi = y := by
  by_cases hc : (c && decide (n ≤ 1000)) = true
  · have h := (if_pos hc).symm.trans h
    obtain ⟨h1, h2⟩ := Bool.and_eq_true_iff.mp hc
    cases x with
    | none => exact nn h
    | some d =>
      cases d with
      | int a => exact ⟨a, h1, of_decide_eq_true h2, rfl, Option.some.inj h⟩
      | _ => exact nn h
  · exact nn ((if_neg hc).symm.trans h)

section
variable {B : Bs} {F : Fns} {r n : Nat}

theorem stmt_sub (S : Snd B F r n) {mv : List Str} {x : Str} {px pi pos : Pos} {i e : Expr} {Γ Γ' : Ctx} {σ σ' : Store} {fl : Fl} (ev : exAssign n F mv (.Subscript (.Name x px) i pi) e Γ σ = some (fl, Γ', σ')) {m : Nat} {A : Around} {env : Env} {Φ : PH} {α : List Addr} {s : Shared} {E : Value → Shared → Prop} {Q : Flow → Shared → Prop}
    (hr : Room r A) (o : Ok B Φ α σ s.heap) (nm : Nm B Φ α env Γ s.heap) (wx : okName env.scope.names x = true) (wi : wfE m env.scope.names i = true) (we : wfE m env.scope.names e = true) (g : GoS B Φ α env fl Γ' σ' s Q) : wpAny (model B.prog B.w) A (exec (.Assign [.Subscript (.Name x px) i pi] e pos) env) Q E s := by
  obtain ⟨w1, w2, w3⟩ := okName_of wx
  obtain ⟨⟨d, σ1⟩, e1, ev⟩ := bsome (eA_sub.symm.trans ev)
  obtain ⟨⟨q, σ2⟩, e2, e3⟩ := bsome ev
  obtain ⟨k, key, kvs, hΓ, hkey, hσ, e3⟩ := dict_shape e3
  obtain ⟨hc, e3⟩ := isome e3
  obtain ⟨hc, hlen⟩ := Bool.and_eq_true_iff.mp hc
  obtain ⟨hk, hl⟩ := Bool.and_eq_true_iff.mp hc
  have hlen := of_decide_eq_true hlen
  have hl : d.isLoc = false := (Bool.not_eq_true' _).mp hl
  obtain ⟨rfl, rfl, rfl⟩ := tinj e3
  refine wpAny_Assign_Subscript (S.e _ _ _ _ _ e1 m A env Φ α s _ _ hr o nm we fun v h1 tk1 Φ1 c1 o1 rv => wpAny_Name (load_name (s := { s with heap := h1, toks := tk1 }) o1 (nm.chg c1) w3 w2 hΓ fun ov ro => ?_) w1) (swaps_sub ..)
  refine S.e _ _ _ _ _ e2 m A env Φ1 α _ _ _ hr o1 (nm.chg c1) wi fun iv h2 tk2 Φ2 c2 o2 ri => ?_
  obtain ⟨a, ha, rfl⟩ := ro
  obtain ⟨ob, hg, hΦ, hs, c⟩ := o2.cellOf ha hσ (by simp)
  obtain ⟨es, nn, rfl, rk, hnd⟩ := c.dct_inv
  have hisk := keyOf_isKey (ri.rep (keyOf_loc hkey)) hkey
  refine dict_setItem (s := { s with heap := h2, toks := tk2 }) o2.seen hg rk hnd hs hk hisk (by have := hr.units; omega) ((rv.mono c2.mono).rep hl) hlen fun h3 tk3 o' hsame hg' hc' => ?_
  obtain ⟨o3, c3⟩ := o2.cell_set ha hσ (by simp) hsame hg' hc' (.inr ⟨_, rfl⟩)
  exact g.here ((c1.trans c2).trans c3).xs o3 (((nm.chg c1).chg c2).chg c3) rfl

theorem stmt_augName (S : Snd B F r n) {x : Str} {px pos : Pos} {e : Expr} {Γ Γ' : Ctx} {σ σ' : Store} {fl : Fl} (ev : exAug n F (.Name x px) e Γ σ = some (fl, Γ', σ')) {m : Nat} {A : Around} {env : Env} {Φ : PH} {α : List Addr} {s : Shared} {E : Value → Shared → Prop} {Q : Flow → Shared → Prop}
    (hr : Room r A) (o : Ok B Φ α σ s.heap) (nm : Nm B Φ α env Γ s.heap) (wx : okTarget env.scope.names x = true) (we : wfE m env.scope.names e = true) (g : GoS B Φ α env fl Γ' σ' s Q) : wpAny (model B.prog B.w) A (exec (.AugAssign (.Name x px) .Add e pos) env) Q E s := by
  have hx := okTarget_kind wx
  obtain ⟨⟨d, σ1⟩, e1, e3⟩ := bsome (eU_name.symm.trans ev)
  obtain ⟨k, rl, l, hΓ, rfl, hσ, e3⟩ := list_shape e3
  by_cases hlen : l.length + rl.length ≤ 1000
  case neg => exact nn ((if_neg hlen).symm.trans e3)
  obtain ⟨rfl, rfl, rfl⟩ := tsome ((if_pos hlen).symm.trans e3)
  have hcd : (x == ("__classdict__" : Str)) = false ∨ True := .inr trivial
  have hx' : env.kindOf x = some .local ∨ env.kindOf x = some .cell ∨ env.kindOf x = some .free ∨ env.kindOf x = some .globalImplicit := by rcases hx with q | q; exact .inl q; exact .inr (.inl q)
  have load : ∀ Q' : Value → Shared → Prop, (∀ v, RepV B.w Φ α v (.loc k) → Q' v s) → wpAny (model B.prog B.w) A (loadName env x) Q' E s := fun Q' h => by
    rcases hx with hk | hk
    · obtain ⟨mm, hn, f⟩ := nm.loc
      obtain ⟨v, hv, r'⟩ := f x _ hk hΓ
      exact wpAny_loadName_local nm.kind hk hn hv (h v r')
    · obtain ⟨c, v, h1, h2, _, _, _, h6⟩ := nm.cell x _ hk (.inl rfl)
      obtain ⟨u, rfl, r'⟩ := h6 _ hΓ
      exact wpAny_loadName_cell nm.kind hk h1 h2 (h u r')
  refine wpAny_AugAssign_Name (load _ fun old ro => S.e _ _ _ _ _ e1 m A env Φ α s _ _ hr o nm we fun v h1 tk1 Φ1 c1 o1 rv => ?_)
  obtain ⟨a, ha, rfl⟩ := ro
  obtain ⟨ob, hg, hΦ, hs, c⟩ := o1.cellOf ha hσ (by simp)
  obtain ⟨us, cc, rfl, rl1⟩ := c.lst_inv
  obtain ⟨b, us2, c2, rfl, hb, _, rl2⟩ := Rep.lst_inv rv
  have hb' := o1.seen _ _ hb
  have h1000 := lines1000
  refine inplace_list (s := { s with heap := h1, toks := tk1 }) ⟨_, hg, rfl⟩ ⟨_, hb', rfl⟩ (call_meets PySem.F.slot_list_iadd ⟨_, hg, rfl⟩ PySem.F.entry_list_iadd (PySem.F.args_list_iadd_2 _ _) (AutoSeq1.list___iadd___list_list_0 a us.toArray cc b us2.toArray c2 ?_ (by simp only [List.size_toArray, rl1.length]; omega) (by simp only [List.size_toArray, rl1.length, rl2.length]; omega)) ⟨hg, hb', ?_⟩)
  · have : Builtin.List.listTooLong (us.toArray.size + us2.toArray.size) = false := by
      unfold Builtin.List.listTooLong
      simp only [List.size_toArray, rl1.length, rl2.length, gt_iff_lt, decide_eq_false_iff_not, Nat.not_lt]
      omega
    rw [this]; simp
  · obtain ⟨c', hg'⟩ := update_list hg (fun x => x ++ us2.toArray)
    obtain ⟨o2, ch⟩ := o1.cell_set ha hσ (by simp) (Heap.SameBut.update ..) hg' (.lst (by simpa using rl1.append rl2)) (.inl ⟨_, rfl⟩)
    have n2 := (nm.chg c1).chg ch
    refine store_name (s := { s with heap := h1.update a (Obj.mapSeq fun x => x ++ us2.toArray), toks := tk1 }) o2 n2 hx (d := .loc k) ⟨a, ha, rfl⟩ fun h3 tk3 c3 o3 n3 => ?_
    refine g.here ((c1.trans ch).xs.trans (c3.weak fun b hb => .inr ⟨x, hb⟩)) o3 (n3.weak fun y dy ey => ?_) rfl
    unfold upd
    split
    · rename_i hy; subst hy; rw [hΓ] at ey; exact ey
    · exact ey

theorem aug_store {m : Nat} {nm : Names} {i : Expr} (wi : wfE m nm i = true) {ov iv new : Value} : augStore i ov iv new = (do holding [new, ov, iv] (setItem ov iv new); release [new, ov, iv] []; pure .next) := by
  cases i with
  | Slice lo hi st p => cases m <;> exact no wi
  | _ => rfl
theorem stmt_augSub (S : Snd B F r n) {x : Str} {px pi pos p' : Pos} {i : Expr} {bi : Int} {kk : Nat} {Γ Γ' : Ctx} {σ σ' : Store} {fl : Fl} (ev : exAug n F (.Subscript (.Name x px) i pi) (.Constant (.int bi) kk p') Γ σ = some (fl, Γ', σ')) {m : Nat} {A : Around} {env : Env} {Φ : PH} {α : List Addr} {s : Shared} {E : Value → Shared → Prop} {Q : Flow → Shared → Prop}
    (hr : Room r A) (o : Ok B Φ α σ s.heap) (nm : Nm B Φ α env Γ s.heap) (wx : okName env.scope.names x = true) (wi : wfE m env.scope.names i = true) (g : GoS B Φ α env fl Γ' σ' s Q) : wpAny (model B.prog B.w) A (exec (.AugAssign (.Subscript (.Name x px) i pi) .Add (.Constant (.int bi) kk p') pos) env) Q E s := by
  obtain ⟨w1, w2, w3⟩ := okName_of wx
  obtain ⟨⟨q, σ2⟩, e2, e3⟩ := bsome (eU_sub.symm.trans ev)
  obtain ⟨k, key, kvs, hΓ, hkey, hσ, e3⟩ := dict_shape e3
  obtain ⟨ai, hk, hlen, hget, e3⟩ := inc_shape e3
  obtain ⟨rfl, rfl, rfl⟩ := tinj e3
  refine wpAny_AugAssign_SubscriptAny (wpAny_Name (load_name o nm w3 w2 hΓ fun ov ro => ?_) w1) (fun ov iv new => aug_store wi)
  refine S.e _ _ _ _ _ e2 m A env Φ α s _ _ hr o nm wi fun iv h2 tk2 Φ2 c2 o2 ri => ?_
  obtain ⟨a, ha, rfl⟩ := ro
  obtain ⟨ob, hg, hΦ, hs, c⟩ := o2.cellOf ha hσ (by simp)
  obtain ⟨es, nn, rfl, rk, hnd⟩ := c.dct_inv
  have hisk := keyOf_isKey (ri.rep (keyOf_loc hkey)) hkey
  refine dict_getItem (s := { s with heap := h2, toks := tk2 }) o2.seen hg rk hnd hs hk hisk (by have := hr.units; omega) hget fun old tk3 rold => ?_
  obtain ⟨t, rfl⟩ := Rep.int_inv rold
  refine wpAny_Constant_int (P.iadd_int ?_)
  refine dict_setItem (s := { s with heap := h2, toks := tk3 + 1 + 1 }) o2.seen hg rk hnd hs hk hisk (by have := hr.units; omega) (dv := .int (ai + bi)) (.int _ _) hlen fun h3 tk4 o' hsame hg' hc' => ?_
  obtain ⟨o3, c3⟩ := o2.cell_set ha hσ (by simp) hsame hg' hc' (.inr ⟨_, rfl⟩)
  exact g.here (c2.trans c3).xs o3 ((nm.chg c2).chg c3) rfl
end
end Mine

-- SoA
namespace Mine
open PySem PySem.SeqAt PySem.MeetsSeq
set_option linter.unusedSectionVars false
set_option linter.unusedSimpArgs false
set_option linter.unusedVariables false

theorem SrcOk.more {p : D} {q : Option Addr} {α : List Addr} {σ : Store} {items : List D} (x : SrcOk p q α σ items) (β : List Addr) : SrcOk p q (α ++ β) σ items := fun a ha => by
  obtain ⟨k, h1, h2, h3⟩ := x a ha
  exact ⟨k, h1, by rw [List.getElem?_append_left (List.getElem?_eq_some_iff.mp h2).1]; exact h2, h3⟩

section
variable {B : Bs} {F : Fns} {r n : Nat}

theorem for_loop (hB : SndSs B F r n) {mv : List Str} {t : Expr} {b : List Stmt} {p : D} {q : Option Addr} {items : List D} {m : Nat} {A : Around} {env : Env} {it : Addr} (hr : Room r A) (wt : wfT env.scope.names t = true) (wb : b.all (wfS m env.scope.names) = true) :
    ∀ (rem done : List D) (Γ : Ctx) (σ : Store) (fl : Fl) (Γ' : Ctx) (σ' : Store) (α : List Addr) (Φ : PH) (s : Shared) (R : Result → Shared → Prop), forL p t (fun Γ σ => exSs n F mv b Γ σ) rem Γ σ = some (fl, Γ', σ') → items = done ++ rem →
      Ok B Φ α σ s.heap → Nm B Φ α env Γ s.heap → Apart Φ α env it → ItSt B.w Φ s.heap it items done.length q → SrcOk p q α σ items →
      (∀ f h' tk Φ' β, Chg (fun b => XS α env b ∨ b = it) Φ Φ' s.heap h' → (∀ b ∈ β, s.heap.get? b = none) → Ok B Φ' (α ++ β) σ' h' → Nm B Φ' (α ++ β) env Γ' h' → FlOk B.w Φ' (α ++ β) fl f → R (.ok f) { s with heap := h', toks := tk }) →
      codeAny (model B.prog B.w) A (.forLoop t (.ref it) b [] env) R s := by
  intro rem
  induction rem with
  | nil =>
    intro done Γ σ fl Γ' σ' α Φ s R ev hitems o nm hit st so K
    simp only [forL, Option.some.injEq, Prod.mk.injEq] at ev
    obtain ⟨rfl, rfl, rfl⟩ := ev
    rw [List.append_nil] at hitems
    subst hitems
    refine codeAny_of_tree ?_
    show wpAny _ _ ((forTurn t (.ref it) b [] env).onRaise (fun x => do noteFrame x env; theTreesLotGoes x)) _ _ s
    refine wpAny_noted ?_
    simp only [forTurn]
    refine wpAny_bind (wpAny_standAt (wpAny_bind (wpAny_onRaise (st.stop o.seen hit.fr hr.1 fun h' hx => ?_))))
    refine wpAny_pure ⟨rfl, codeAny_block (wpAny_execs_nil ?_)⟩
    have c : Chg (fun b => b = it) Φ Φ s.heap h' := Chg.ext hx rfl
    exact K .next h' s.toks Φ [] (c.weak fun b e => .inr e) (by simp) (by simpa using o.out c (o.seen.ext hx hit.fr) fun a ha e => hit.al (e ▸ ha)) (by simpa using nm.step c (Ne.symm hit.lo) fun y kd a h1 h2 h3 => hit.ce y kd a h1 h2 h3) rfl
  | cons d rem ih =>
    intro done Γ σ fl Γ' σ' α Φ s R ev hitems o nm hit st so K
    simp only [forL] at ev
    split at ev
    case h_1 => cases ev
    rename_i Γ1 e1
    have hd : items[done.length]? = some d := by rw [hitems]; simp
    refine codeAny_of_tree ?_
    show wpAny _ _ ((forTurn t (.ref it) b [] env).onRaise (fun x => do noteFrame x env; theTreesLotGoes x)) _ _ s
    refine wpAny_noted ?_
    simp only [forTurn]
    refine wpAny_bind (wpAny_standAt (wpAny_bind (wpAny_onRaise (st.next o.seen hit.fr hd fun v h1 tk1 rv st1 hs1 => ?_))))
    have c1 : Chg (fun b => b = it) Φ Φ s.heap h1 := Chg.ext hs1.extBut rfl
    have o1 : Ok B Φ α σ h1 := o.out c1 (o.seen.ext hs1.extBut hit.fr) fun a ha e => hit.al (e ▸ ha)
    have n1 : Nm B Φ α env Γ h1 := nm.step c1 (Ne.symm hit.lo) fun y kd a q1 q2 q3 => hit.ce y kd a q1 q2 q3
    obtain ⟨oi, hoi⟩ : ∃ ob, h1.get? it = some ob := st1.alive (s := { s with heap := h1 })
    refine wpAny_bind (st1.letGo (s := { s with heap := h1, toks := tk1 }) (wpAny_bind ?_))
    refine assign_t (s := { s with heap := h1, toks := tk1 }) hr.1 e1 wt rv.repV o1 n1 fun h2 tk2 c2 o2 n2 => ?_
    have c2' : Chg (XS α env) Φ Φ h1 h2 := c2
    have hnx : ∀ {α' : List Addr} {Φ' : PH}, Apart Φ' α' env it → ¬ XS α' env it := fun ap q => by
      rcases q with q | ⟨x, q⟩
      · exact ap.al q
      · exact ap.slot q rfl
    have hoi2 := c2'.keep _ _ (hnx hit) hoi
    -- what comes behind an item
    have next : ∀ (h3 : Heap) (tk3 : Nat) (Φ3 : PH) (β : List Addr) (Γ2 : Ctx) (σ2 : Store), Chg (XS α env) Φ Φ3 h2 h3 → (∀ b ∈ β, h2.get? b = none) → Ok B Φ3 (α ++ β) σ2 h3 → Nm B Φ3 (α ++ β) env Γ2 h3 →
        sameAt p σ σ2 = true → forL p t (fun Γ σ => exSs n F mv b Γ σ) rem Γ2 σ2 = some (fl, Γ', σ') → codeAny (model B.prog B.w) A (.forLoop t (.ref it) b [] env) R { s with heap := h3, toks := tk3 } := by
      intro h3 tk3 Φ3 β Γ2 σ2 c3 hβ o3 n3 hsame erest
      have hitβ : it ∉ β := fun q => by rw [hβ _ q] at hoi2; cases hoi2
      have hit3 : Apart Φ3 (α ++ β) env it := by
        have a1 := hit.step c3 (hnx hit) hoi2
        exact ⟨a1.fr, fun q => (List.mem_append.mp q).elim a1.al hitβ, a1.lo, a1.ce⟩
      have so3 : SrcOk p q (α ++ β) σ2 items := (so.same hsame).more β
      have cAll : Chg (fun b => XS α env b ∨ b = it) Φ Φ3 s.heap h3 := ((c1.weak fun b e => .inr e).trans (c2'.weak fun b e => .inl e)).trans (c3.weak fun b e => .inl e)
      have hβs : ∀ b ∈ β, s.heap.get? b = none := fun b hb => by
        have hb2 := hβ b hb
        have hb1 : h1.get? b = none := by
          cases e : h1.get? b with
          | none => rfl
          | some ob =>
            have := Chg.freshX (β := []) (by simpa using o2) (by simpa using n2) c2' hb2
            rw [e] at this; cases this
        cases e : s.heap.get? b with
        | none => rfl
        | some ob =>
          have hne : b ≠ it := by rintro rfl; rw [hb1] at hoi; cases hoi
          rw [c1.keep b ob hne e] at hb1; cases hb1
      have st3 : ItSt B.w Φ3 h3 it items (done.length + 1) q := by
        refine st1.carry (s := { s with heap := h1 }) (fun a ob e => c3.mono _ _ e) (fun ob e => c3.keep _ _ (hnx hit) (c2'.keep _ _ (hnx hit) e)) fun a e => so3.list o3 e
      refine ih (done ++ [d]) Γ2 σ2 fl Γ' σ' (α ++ β) Φ3 _ R erest (by rw [hitems]; simp) o3 n3 hit3 (by simpa using st3) so3 fun f h4 tk4 Φ4 β4 c4 hβ4 o4 n4 hf => ?_
      refine K f h4 tk4 Φ4 (β ++ β4) (cAll.and c4 fun b hb => ?_) (fun b hb => ?_) (by rw [← List.append_assoc]; exact o4) (by rw [← List.append_assoc]; exact n4) (by rw [← List.append_assoc]; exact hf)
      · rcases hb with hb | hb
        · exact (XS.ext hβs hb).imp .inl id
        · exact .inl (.inr hb)
      · rcases List.mem_append.mp hb with hb | hb
        · exact hβs b hb
        · cases e : s.heap.get? b with
          | none => rfl
          | some ob =>
            have hb3 : h3.get? b = none := hβ4 b hb
            have hb2 : h2.get? b = none := by
              have := Chg.freshX o3 n3 c3 hb3
              exact this
            have hb1 : h1.get? b = none := Chg.freshX (β := []) (by simpa using o2) (by simpa using n2) c2' hb2
            have hne : b ≠ it := by rintro rfl; rw [hb1] at hoi; cases hoi
            rw [c1.keep b ob hne e] at hb1; cases hb1
    have fin : ∀ f h3 tk3 Φ3 β Γ2 σ2 fl2, Chg (XS α env) Φ Φ3 h2 h3 → (∀ b ∈ β, h2.get? b = none) → Ok B Φ3 (α ++ β) σ2 h3 → Nm B Φ3 (α ++ β) env Γ2 h3 → FlOk B.w Φ3 (α ++ β) fl2 f → fl2 = fl → Γ2 = Γ' → σ2 = σ' → R (.ok f) { s with heap := h3, toks := tk3 } := by
      rintro f h3 tk3 Φ3 β Γ2 σ2 fl2 c3 hβ o3 n3 hf rfl rfl rfl
      refine K f h3 tk3 Φ3 β (((c1.weak fun b e => .inr e).trans (c2'.weak fun b e => .inl e)).trans (c3.weak fun b e => .inl e)) (fun b hb => ?_) o3 n3 hf
      have hb1 : h1.get? b = none := Chg.freshX (β := []) (by simpa using o2) (by simpa using n2) c2' (hβ b hb)
      cases e : s.heap.get? b with
      | none => rfl
      | some ob =>
        have hne : b ≠ it := by rintro rfl; rw [hb1] at hoi; cases hoi
        rw [c1.keep b ob hne e] at hb1; cases hb1
    cases hbody : exSs n F mv b Γ1 σ with
    | none => rw [hbody] at ev; cases ev
    | some y =>
      obtain ⟨fl2, Γ2, σ2⟩ := y
      rw [hbody] at ev
      refine wpAny_bind (hB mv b Γ1 σ fl2 Γ2 σ2 hbody m A env Φ α { s with heap := h2, toks := tk2 } _ _ hr o2 n2 wb fun f h3 tk3 Φ3 β c3 hβ o3 n3 hf => ?_)
      cases fl2 with
      | next =>
        obtain rfl : f = .next := hf
        simp only at ev
        split at ev
        · rename_i hsame
          exact wpAny_pure ⟨rfl, next h3 tk3 Φ3 β Γ2 σ2 c3 hβ o3 n3 hsame ev⟩
        · cases ev
      | cont =>
        obtain rfl : f = .cont := hf
        simp only at ev
        split at ev
        · rename_i hsame
          exact wpAny_pure ⟨rfl, next h3 tk3 Φ3 β Γ2 σ2 c3 hβ o3 n3 hsame ev⟩
        · cases ev
      | brk =>
        obtain rfl : f = .brk := hf
        simp only [Option.some.injEq, Prod.mk.injEq] at ev
        exact wpAny_pure (fin .next h3 tk3 Φ3 β Γ2 σ2 .next c3 hβ o3 n3 rfl ev.1 ev.2.1 ev.2.2)
      | ret dv =>
        obtain ⟨v', rfl, rv'⟩ := hf
        simp only [Option.some.injEq, Prod.mk.injEq] at ev
        exact wpAny_pure (fin _ h3 tk3 Φ3 β Γ2 σ2 (.ret dv) c3 hβ o3 n3 ⟨v', rfl, rv'⟩ ev.1 ev.2.1 ev.2.2)

theorem while_loop (S : Snd B F r n) (hB : SndSs B F r n) {mv : List Str} {t : Expr} {b : List Stmt} {m : Nat} {A : Around} {env : Env} (hr : Room r A) (wt : wfE m env.scope.names t = true) (wb : b.all (wfS m env.scope.names) = true) :
    ∀ (fuel : Nat) (Γ : Ctx) (σ : Store) (fl : Fl) (Γ' : Ctx) (σ' : Store) (α : List Addr) (Φ : PH) (s : Shared) (R : Result → Shared → Prop), whileL (fun Γ σ => evT n F Γ t σ) (fun Γ σ => exSs n F mv b Γ σ) fuel Γ σ = some (fl, Γ', σ') →
      Ok B Φ α σ s.heap → Nm B Φ α env Γ s.heap → GoS B Φ α env fl Γ' σ' s (fun f s' => R (.ok f) s') → codeAny (model B.prog B.w) A (.whileLoop t b [] env) R s := by
  intro fuel
  induction fuel with
  | zero => intro Γ σ fl Γ' σ' α Φ s R ev; simp [whileL] at ev
  | succ fuel ih =>
    intro Γ σ fl Γ' σ' α Φ s R ev o nm g
    simp only [whileL] at ev
    refine codeAny_of_tree ?_
    show wpAny _ _ ((whileTurn t b [] env).onRaise (fun x => do noteFrame x env; theTreesLotGoes x)) _ _ s
    refine wpAny_noted ?_
    simp only [whileTurn]
    split at ev
    · cases ev
    · rename_i σ1 e1
      simp only [Option.some.injEq, Prod.mk.injEq] at ev
      obtain ⟨rfl, rfl, rfl⟩ := ev
      refine wpAny_bind (S.t _ _ _ _ _ e1 m A env Φ α s _ _ hr o nm wt fun h1 tk1 Φ1 c1 o1 => ?_)
      simp only [Bool.false_eq_true, if_false]
      exact wpAny_bind (wpAny_execs_nil (wpAny_pure (g.here c1.xs o1 (nm.chg c1) rfl)))
    · rename_i σ1 e1
      refine wpAny_bind (S.t _ _ _ _ _ e1 m A env Φ α s _ _ hr o nm wt fun h1 tk1 Φ1 c1 o1 => ?_)
      simp only [if_true]
      have n1 := nm.chg c1
      have g1 := g.go0 (tk := tk1) c1.xs o1 n1
      cases hbody : exSs n F mv b Γ σ1 with
      | none => rw [hbody] at ev; cases ev
      | some y =>
        obtain ⟨fl2, Γ2, σ2⟩ := y
        rw [hbody] at ev
        refine wpAny_bind (hB mv b Γ σ1 fl2 Γ2 σ2 hbody m A env Φ1 α { s with heap := h1, toks := tk1 } _ _ hr o1 n1 wb fun f h3 tk3 Φ3 β c3 hβ o3 n3 hf => ?_)
        cases fl2 with
        | next =>
          obtain rfl : f = .next := hf
          exact wpAny_pure ⟨rfl, ih Γ2 σ2 fl Γ' σ' (α ++ β) Φ3 _ R ev o3 n3 (g1.go c3 hβ o3 n3)⟩
        | cont =>
          obtain rfl : f = .cont := hf
          exact wpAny_pure ⟨rfl, ih Γ2 σ2 fl Γ' σ' (α ++ β) Φ3 _ R ev o3 n3 (g1.go c3 hβ o3 n3)⟩
        | brk =>
          obtain rfl : f = .brk := hf
          simp only [Option.some.injEq, Prod.mk.injEq] at ev
          obtain ⟨rfl, rfl, rfl⟩ := ev
          exact wpAny_pure (g1 .next h3 tk3 Φ3 β c3 hβ o3 n3 rfl)
        | ret dv =>
          obtain ⟨v', rfl, rv'⟩ := hf
          simp only [Option.some.injEq, Prod.mk.injEq] at ev
          obtain ⟨rfl, rfl, rfl⟩ := ev
          exact wpAny_pure (g1 _ h3 tk3 Φ3 β c3 hβ o3 n3 ⟨v', rfl, rv'⟩)
end
end Mine

-- SoB
namespace Mine
open PySem PySem.SeqAt PySem.MeetsSeq
set_option linter.unusedSectionVars false
set_option linter.unusedSimpArgs false
set_option linter.unusedVariables false

section
variable {B : Bs} {Φ Φ' Φ1 : PH} {α β β1 : List Addr} {σ σ' σ1 : Store} {h h' h0 h1 : Heap} {env : Env} {Γ Γ' Γ1 : Ctx}

theorem Ok.freezeCell (o : Ok B Φ α σ h) {k : Nat} {a : Addr} {ob : Obj} (ha : α[k]? = some a) (hg : h.get? a = some ob) (hΦ : Φ a = none) : Ok B (put Φ a ob) α (σ.set k .nil) h where
  base := fun b x e => put_mono hΦ b x (o.base b x e)
  seen := fun b x e => by
    by_cases hb : b = a
    · subst hb; rw [put_self] at e; cases e; exact hg
    · rw [put_ne _ _ hb] at e; exact o.seen b x e
  len := by rw [List.length_set]; exact o.len
  nodup := o.nodup
  live := o.live
  cell := fun j b d hb hd => by
    by_cases hj : j = k
    · subst hj
      left
      rw [List.getElem?_set] at hd
      simp only [if_true] at hd
      split at hd <;> simp only [Option.some.injEq, reduceCtorEq] at hd
      exact hd.symm
    · rw [List.getElem?_set_ne (Ne.symm hj)] at hd
      have hba : b ≠ a := by
        rintro rfl
        obtain ⟨p1, p2⟩ := List.getElem?_eq_some_iff.mp ha
        obtain ⟨q1, q2⟩ := List.getElem?_eq_some_iff.mp hb
        have hp := List.pairwise_iff_getElem.mp o.nodup
        rcases Nat.lt_or_gt_of_ne hj with hlt | hlt
        · exact hp j k q1 p1 hlt (q2.trans p2.symm)
        · exact hp k j p1 q1 hlt (p2.trans q2.symm)
      exact (o.cell j b d hb hd).imp id fun ⟨hd', x, hx, hn, hs, c⟩ => ⟨hd', x, hx, by rw [put_ne Φ ob hba, hn], hs, c.mono (put_mono hΦ)⟩

theorem Nm.retype (n : Nm B Φ α env Γ h) {x : Str} {k : Nat} {a : Addr} {ob : Obj} {d : D} (hx : Γ x = some (.loc k)) (ha : α[k]? = some a) (hΦ : Φ a = none) (r : Rep B.w (put Φ a ob) (.ref a) d) : Nm B (put Φ a ob) α env (upd Γ x d) h := by
  have hm : a ∈ α := List.mem_iff_getElem?.mpr ⟨k, ha⟩
  have key : ∀ v, RepV B.w Φ α v (.loc k) → RepV B.w (put Φ a ob) α v d := fun v hv => by
    obtain ⟨b, hb, rfl⟩ := hv
    rw [ha] at hb; cases hb
    exact r.repV
  have get : ∀ y dy v, upd Γ x d y = some dy → (∀ d', Γ y = some d' → RepV B.w Φ α v d') → RepV B.w (put Φ a ob) α v dy := fun y dy v e f => by
    unfold upd at e
    split at e
    · rename_i hy; subst hy
      simp only [Option.some.injEq] at e
      subst e
      exact key v (f _ hx)
    · exact (f _ e).mono (put_mono hΦ)
  have some_of : ∀ y dy, upd Γ x d y = some dy → ∃ d', Γ y = some d' := fun y dy e => by
    unfold upd at e
    split at e
    · rename_i hy; subst hy; exact ⟨_, hx⟩
    · exact ⟨_, e⟩
  refine ⟨n.kind, n.glob, n.bltn, ?_, ?_, n.locα, fun y kk hk hk' => ?_, n.apart, fun y dy hk e => ?_⟩
  · obtain ⟨m, hn, f⟩ := n.loc
    refine ⟨m, hn, fun y dy hk e => ?_⟩
    obtain ⟨d', e'⟩ := some_of y dy e
    obtain ⟨v, hv, _⟩ := f y d' hk e'
    refine ⟨v, hv, get y dy v e fun d2 e2 => ?_⟩
    obtain ⟨v2, hv2, r2⟩ := f y d2 hk e2
    rw [hv] at hv2; cases hv2; exact r2
  · have : env.locals ≠ a := fun q => n.locα (by rw [q]; exact hm)
    rw [put_ne Φ ob this, n.locΦ]
  · obtain ⟨c, v, q1, q2, q3, q4, q5, q6⟩ := n.cell y kk hk hk'
    have hca : c ≠ a := fun q => q4 (by rw [q]; exact hm)
    refine ⟨c, v, q1, q2, by rw [put_ne Φ ob hca, q3], q4, q5, fun dy e => ?_⟩
    obtain ⟨d', e'⟩ := some_of y dy e
    obtain ⟨u, rfl, _⟩ := q6 d' e'
    refine ⟨u, rfl, get y dy u e fun d2 e2 => ?_⟩
    obtain ⟨u2, hu2, r2⟩ := q6 d2 e2
    cases hu2; exact r2
  · unfold upd at e
    split at e
    · rename_i hy; subst hy
      obtain ⟨v, _, r'⟩ := n.glo y _ hk hx
      exact absurd r'.notLoc (by simp [D.isLoc])
    · obtain ⟨v, hv, r'⟩ := n.glo y dy hk e
      exact ⟨v, hv, r'.mono (put_mono hΦ)⟩
end

section
variable {B : Bs} {F : Fns} {r n : Nat}

theorem frozen_shape {Γ : Ctx} {σ : Store} {it : Expr} {x : Str} {k : Nat} {kvs : List (Key × D)} (h : frozenDict Γ σ it = some (x, k, kvs)) : ∃ p, it = .Name x p ∧ Γ x = some (.loc k) ∧ σ[k]? = some (.dct kvs) := by
  cases it with
  | Name y p =>
    have h : (match Γ y with
      | some (.loc k) => match σ[k]? with
        | some (.dct kvs) => some (y, k, kvs)
        | _ => none
      | _ => none) = some (x, k, kvs) := h
    cases h1 : Γ y with
    | none => rw [h1] at h; exact nn h
    | some d =>
      rw [h1] at h
      cases d with
      | loc j =>
        have h : (match σ[j]? with
          | some (.dct kvs) => some (y, j, kvs)
          | _ => none) = some (x, k, kvs) := h
        cases h2 : σ[j]? with
        | none => rw [h2] at h; exact nn h
        | some d2 =>
          rw [h2] at h
          cases d2 with
          | dct kvs' =>
            obtain ⟨rfl, rfl, rfl⟩ := tsome h
            exact ⟨p, rfl, h1, h2⟩
          | _ => exact nn h
      | _ => exact nn h
  | _ => exact nn h
theorem stmt_for (S : Snd B F r n) (hB : SndSs B F r n) {mv : List Str} {t it : Expr} {b : List Stmt} {pos : Pos} {Γ Γ' : Ctx} {σ σ' : Store} {fl : Fl} (ev : exS (n + 1) F mv (.For t it b [] pos) Γ σ = some (fl, Γ', σ')) {m : Nat} {A : Around} {env : Env} {Φ : PH} {α : List Addr} {s : Shared} {E : Value → Shared → Prop} {Q : Flow → Shared → Prop}
    (hr : Room r A) (o : Ok B Φ α σ s.heap) (nm : Nm B Φ α env Γ s.heap) (wt : wfT env.scope.names t = true) (wi : wfE m env.scope.names it = true) (wb : b.all (wfS m env.scope.names) = true) (g : GoS B Φ α env fl Γ' σ' s Q) : wpAny (model B.prog B.w) A (exec (.For t it b [] pos) env) Q E s := by
  have ev := eS_for.symm.trans ev
  cases hf0 : frozenDict Γ σ it with
  | some y =>
    obtain ⟨x', k', kvs'⟩ := y
    obtain ⟨px, rfl, hΓ, hσ⟩ := frozen_shape hf0
    rw [hf0] at ev
    obtain ⟨items, e1, e2⟩ := bsome ev
    have wx : okName env.scope.names x' = true := by
      cases m with
      | zero => exact no wi
      | succ m => exact wi
    obtain ⟨w1, w2, w3⟩ := okName_of wx
    refine wpAny_For (wpAny_Name (load_name o nm w3 w2 hΓ fun v rv => ?_) w1) (fun y => no_fold wi env y)
    obtain ⟨a, ha, rfl⟩ := rv
    obtain ⟨ob, hg, hΦ, hs, c⟩ := o.cellOf ha hσ (by simp)
    obtain ⟨es, nn, rfl, rk, hnd⟩ := c.dct_inv
    refine dctIter hs hg ?_
    generalize hH : s.heap.push { cls := .type "dict_keyiterator", data := .fields #[.ref a, .int 0 0, .int es.length 0, .int nn 0] } = H
    have hk : ∀ b ob, s.heap.get? b = some ob → H.get? b = some ob := fun b ob e => hH ▸ Heap.get?_push_of_some _ e
    have hfr := fresh_none s.heap
    have hm : a ∈ α := List.mem_iff_getElem?.mpr ⟨k', ha⟩
    have hitH : H.get? s.heap.objs.size = some { cls := .type "dict_keyiterator", data := .fields #[.ref a, .int 0 0, .int es.length 0, .int nn 0] } := hH ▸ Heap.get?_push_size _ rfl
    have rep : Rep B.w (put Φ a (dctO es nn)) (.ref a) (.dct kvs') := .obj (put_self ..) hs (.dct (rk.mono (put_mono hΦ)) hnd)
    have c0 : ∀ {X : Addr → Prop}, Chg X Φ Φ s.heap H := ⟨fun _ _ _ e => hk _ _ e, fun _ _ e => e, fun _ _ _ _ => rfl⟩
    have o1 : Ok B Φ α σ H := o.makes c0 fun b ob e => hk _ _ (o.seen b ob e)
    have n1 : Nm B Φ α env Γ H := nm.step (X := NoX) c0 id fun _ _ _ _ _ _ f => f
    have o2 := o1.freezeCell ha (hk _ _ hg) hΦ
    have n2 : Nm B (put Φ a (dctO es nn)) α env (upd Γ x' (.dct kvs')) H := n1.retype hΓ ha hΦ rep
    have c2 : Chg (XS α env) Φ (put Φ a (dctO es nn)) s.heap H := ⟨fun b ob _ e => hk b ob e, put_mono hΦ, fun b ob hb e => put_ne _ _ fun q => hb (.inl (q ▸ hm))⟩
    have hit : Apart (put Φ a (dctO es nn)) α env s.heap.objs.size := by
      have a1 : Apart Φ α env s.heap.objs.size := Apart.new o nm hfr
      have hia : s.heap.objs.size ≠ a := fun q => a1.al (by rw [q]; exact hm)
      exact ⟨by rw [put_ne Φ _ hia, a1.fr], a1.al, a1.lo, a1.ce⟩
    have hitems : kvs'.map (fun kv => ofKey kv.1) = items := by
      by_cases hq : kvs'.length ≤ 1000
      · exact Option.some.inj ((if_pos hq).symm.trans e1)
      · exact Mine.nn ((if_neg hq).symm.trans e1)
    have st : ItSt B.w (put Φ a (dctO es nn)) H s.heap.objs.size items 0 none := by
      refine .dct (p := a) (es := es) (ep := nn) ⟨_, hitH, rfl, ?_⟩ (put_self ..) (rk.mono (put_mono hΦ)) hitems.symm
      simp [rawInt]
    refine for_loop hB (items := items) (p := .nil) (q := none) hr wt wb items [] _ _ fl Γ' σ' α _ { s with heap := H } _ e2 rfl o2 n2 hit st (fun a e => by cases e) fun f h3 tk3 Φ3 β c3 hβ o3 n3 hf => ?_
    refine g f h3 tk3 Φ3 β (c2.and c3 fun b hb => hb.imp id fun (q : b = s.heap.objs.size) => by rw [q]; exact hfr) (fun b hb => ?_) o3 n3 hf
    cases e : s.heap.get? b with
    | none => rfl
    | some ob =>
      have : H.get? b = none := hβ b hb
      rw [hk _ _ e] at this; cases this
  | none =>
    rw [hf0] at ev
    obtain ⟨⟨p, σ1⟩, e1, ev⟩ := bsome ev
    obtain ⟨src, e2, ev⟩ := bsome ev
    obtain ⟨items, e3, e4⟩ := bsome ev
    refine wpAny_For (S.e _ _ _ _ _ e1 m A env Φ α s _ _ hr o nm wi fun v h1 tk1 Φ1 c1 o1 rv => ?_) (fun y => no_fold wi env y)
    have n1 := nm.chg c1
    refine iter_start (s := { s with heap := h1, toks := tk1 }) o1 rv e2 e3 fun h2 q hk2 st so hsame => ?_
    have hfr : h1.get? h1.objs.size = none := fresh_none h1
    have c2 : ∀ {X : Addr → Prop}, Chg X Φ1 Φ1 h1 h2 := ⟨fun _ _ _ e => hk2 _ _ e, fun _ _ e => e, fun _ _ _ _ => rfl⟩
    have o2 : Ok B Φ1 α σ1 h2 := o1.makes c2 fun a ob e => hk2 _ _ (o1.seen a ob e)
    have n2 : Nm B Φ1 α env Γ h2 := n1.step (X := NoX) c2 id fun _ _ _ _ _ _ f => f
    have hit : Apart Φ1 α env h1.objs.size := Apart.new o1 n1 hfr
    have hfr0 : s.heap.get? h1.objs.size = none := Chg.fresh_of o1 c1 hfr
    refine for_loop hB (items := items) (p := p) (q := q) hr wt wb items [] _ _ fl Γ' σ' α _ { s with heap := h2, toks := tk1 } _ e4 rfl o2 n2 hit st so fun f h3 tk3 Φ3 β c3 hβ o3 n3 hf => ?_
    refine g f h3 tk3 Φ3 β ((c1.xs.trans c2).and c3 fun b hb => hb.imp id fun (q : b = h1.objs.size) => by rw [q]; exact hfr0) (fun b hb => ?_) o3 n3 hf
    refine Chg.fresh_of o1 c1 ?_
    cases e : h1.get? b with
    | none => rfl
    | some ob =>
      have : h2.get? b = none := hβ b hb
      rw [hk2 _ _ e] at this; cases this

theorem snd_assign (hF : FnsOk B r F) (S : Snd B F r n) {mv : List Str} {t e : Expr} {pos : Pos} {Γ Γ' : Ctx} {σ σ' : Store} {fl : Fl} {m : Nat} {A : Around} {env : Env} {Φ : PH} {α : List Addr} {s : Shared} {E : Value → Shared → Prop} {Q : Flow → Shared → Prop}
    (ev : exAssign n F mv t e Γ σ = some (fl, Γ', σ')) (hr : Room r A) (o : Ok B Φ α σ s.heap) (nm : Nm B Φ α env Γ s.heap) (wf : wfS (m + 1) env.scope.names (.Assign [t] e pos) = true) (g : GoS B Φ α env fl Γ' σ' s Q) : wpAny (model B.prog B.w) A (exec (.Assign [t] e pos) env) Q E s := by
  cases t with
  | Name x px =>
    have wf := (Bool.and_eq_true_iff (x := okTarget env.scope.names x)).mp wf
    exact stmt_name hF S ev hr o nm wf.1 wf.2 g
  | Tuple ts k px =>
    have wf := (Bool.and_eq_true_iff (x := ts.all (okNameT env.scope.names))).mp wf
    exact stmt_tuple S (mv := mv) ev hr o nm wf.1 wf.2 g
  | Subscript v i pi =>
    cases v with
    | Name x px =>
      have wf := (Bool.and_eq_true_iff (x := okName env.scope.names x && wfE m env.scope.names i)).mp wf
      have wf1 := Bool.and_eq_true_iff.mp wf.1
      exact stmt_sub S (mv := mv) ev hr o nm wf1.1 wf1.2 wf.2 g
    | _ => exact nn ev
  | _ => exact nn ev
theorem snd_aug (S : Snd B F r n) {t e : Expr} {pos : Pos} {Γ Γ' : Ctx} {σ σ' : Store} {fl : Fl} {m : Nat} {A : Around} {env : Env} {Φ : PH} {α : List Addr} {s : Shared} {E : Value → Shared → Prop} {Q : Flow → Shared → Prop}
    (ev : exAug n F t e Γ σ = some (fl, Γ', σ')) (hr : Room r A) (o : Ok B Φ α σ s.heap) (nm : Nm B Φ α env Γ s.heap) (wf : wfS (m + 1) env.scope.names (.AugAssign t .Add e pos) = true) (g : GoS B Φ α env fl Γ' σ' s Q) : wpAny (model B.prog B.w) A (exec (.AugAssign t .Add e pos) env) Q E s := by
  cases t with
  | Name x px =>
    have wf := (Bool.and_eq_true_iff (x := okTarget env.scope.names x)).mp wf
    exact stmt_augName S ev hr o nm wf.1 wf.2 g
  | Subscript v i pi =>
    cases v with
    | Name x px =>
      cases e with
      | Constant c kk p' =>
        cases c with
        | int bi =>
          have wf := (Bool.and_eq_true_iff (x := okName env.scope.names x)).mp wf
          exact stmt_augSub S ev hr o nm wf.1 wf.2 g
        | _ => exact no wf
      | _ => exact no wf
    | _ => exact nn ev
  | _ => exact nn ev

theorem sndS (hF : FnsOk B r F) (S : Snd B F r n) (hB : SndSs B F r n) : SndS B F r (n + 1) := by
  intro mv st Γ σ fl Γ' σ' ev m A env Φ α s E Q hr o nm wf g
  cases m with
  | zero => exact no wf
  | succ m =>
  cases st with
  | Assign ts e pos =>
    rcases ts with _ | ⟨t, _ | ⟨t', ts⟩⟩
    · exact nn ev
    · exact snd_assign hF S ev hr o nm wf g
    · exact nn ev
  | AugAssign t op e pos =>
    cases op with
    | Add => exact snd_aug S ev hr o nm wf g
    | _ => exact nn ev
  | Return eo pos =>
    cases eo with
    | none => exact nn ev
    | some e =>
      obtain ⟨⟨d, σ1⟩, e1, e2⟩ := bsome (eS_ret.symm.trans ev)
      obtain ⟨rfl, rfl, rfl⟩ := tsome e2
      refine wpAny_Return_some (S.e _ _ _ _ _ e1 m A env Φ α s _ _ hr o nm wf fun v h1 tk1 Φ1 c1 o1 rv => ?_)
      exact g.here c1.xs o1 (nm.chg c1) ⟨v, rfl, rv⟩
  | Expr e pos =>
    obtain ⟨⟨d, σ1⟩, e1, e2⟩ := bsome (eS_expr.symm.trans ev)
    obtain ⟨rfl, rfl, rfl⟩ := tsome e2
    have wf := (Bool.and_eq_true_iff (x := wfE m env.scope.names e)).mp wf
    refine wpAny_Expr_any (S.e _ _ _ _ _ e1 m A env Φ α s _ _ hr o nm wf.1 fun v h1 tk1 Φ1 c1 o1 rv => g.here c1.xs o1 (nm.chg c1) rfl) (interactive_no nm.kind) ?_
    have := wf.2
    cases e <;> first | rfl | exact no this
  | If t b oo pos =>
    obtain ⟨⟨c, σ1⟩, e1, e2⟩ := bsome (eS_if.symm.trans ev)
    have wf := (Bool.and_eq_true_iff (x := wfE m env.scope.names t && b.all (wfS m env.scope.names))).mp wf
    have wf1 := Bool.and_eq_true_iff.mp wf.1
    refine wpAny_If (S.t _ _ _ _ _ e1 m A env Φ α s _ _ hr o nm wf1.1 fun h1 tk1 Φ1 c1 o1 => ?_)
    have n1 := nm.chg c1
    cases c
    · exact hB mv _ Γ σ1 fl Γ' σ' e2 m A env Φ1 α _ _ _ hr o1 n1 wf.2 (g.go0 c1.xs o1 n1)
    · exact hB mv _ Γ σ1 fl Γ' σ' e2 m A env Φ1 α _ _ _ hr o1 n1 wf1.2 (g.go0 c1.xs o1 n1)
  | While t b oo pos =>
    cases oo with
    | cons => exact nn ev
    | nil =>
      have wf := (Bool.and_eq_true_iff (x := wfE m env.scope.names t)).mp wf
      exact wpAny_While (while_loop S hB hr wf.1 wf.2 wfuel Γ σ fl Γ' σ' α Φ s _ ev o nm g)
  | For t it b oo pos =>
    cases oo with
    | cons => exact nn ev
    | nil =>
      have wf := (Bool.and_eq_true_iff (x := wfT env.scope.names t && wfE m env.scope.names it)).mp wf
      have wf1 := Bool.and_eq_true_iff.mp wf.1
      exact stmt_for S hB ev hr o nm wf1.1 wf1.2 wf.2 g
  | Continue pos =>
    obtain ⟨rfl, rfl, rfl⟩ := tsome (eS_cont.symm.trans ev)
    exact wpAny_Continue (g.here (tk := s.toks) .refl o nm rfl)
  | Break pos =>
    obtain ⟨rfl, rfl, rfl⟩ := tsome (eS_brk.symm.trans ev)
    exact wpAny_Break (g.here (tk := s.toks) .refl o nm rfl)
  | _ => exact nn ev

theorem snd_stmts (hF : FnsOk B r F) : ∀ n, SndS B F r n ∧ SndSs B F r n
  | 0 => ⟨fun _ _ _ _ _ _ _ e => nn e, fun _ _ _ _ _ _ _ e => nn e⟩
  | n + 1 =>
    have ⟨h1, h2⟩ := snd_stmts hF n
    ⟨sndS hF (snd_all hF n) h2, sndSs h1 h2⟩
end
end Mine

-- SoC
namespace Mine
open PySem PySem.SeqAt PySem.MeetsSeq
set_option linter.unusedSectionVars false
set_option linter.unusedSimpArgs false
set_option linter.unusedVariables false

/-- a def's scope and text are as the evaluator wants them -/
noncomputable def wfFn (m : Nat) (ps : List Str) (sc : Scope) (body : List Stmt) : Bool :=
  decide (sc.names.map (·.1)).Nodup && sc.names.all (fun x => x.2 == .local || x.2 == .cell || x.2 == .globalImplicit) && ps.all (okTarget sc.names) && body.all (wfS m sc.names) && !sc.isCoroutine && !sc.isGenerator && sc.kind == .function

theorem Room.deeper {r : Nat} {A : Around} {env : Env} (h : Room (r + 1) A) : Room r (A.deeper env) := by
  obtain ⟨h1, h2, h3⟩ := h
  refine ⟨h1, ?_, ?_⟩
  · show A.depth + 1 + r < _
    omega
  · show A.units + 3 + 20 * r + 100 < _
    omega
theorem Room.mono {r r' : Nat} {A : Around} (h : Room r A) (hr : r' ≤ r) : Room r' A := ⟨h.1, by have := h.2.1; omega, by have := h.2.2; omega⟩

section
variable {B : Bs}

theorem FnOk.mono {r r' : Nat} {fa : Addr} {f : Fn} (h : FnOk B r fa f) (hr : r ≤ r') : FnOk B r' fa f := fun A Φ α σ s vs ds d σ' E Q hA => h A Φ α σ s vs ds d σ' E Q (hA.mono hr)

theorem bind_args {w : World} {Φ : PH} {α : List Addr} {kindOf : Str → Option NameKind} : ∀ {ps : List Str} {vs : List Value} {ds : List D} {Γ Γ' : Ctx} {m cm : Str → Option Value}, bindArgsD ps ds Γ = some Γ' → RepVL w Φ α vs ds → (∀ p ∈ ps, kindOf p = some .local ∨ kindOf p = some .cell) →
    (∀ x d, kindOf x = some .local → Γ x = some d → ∃ v, m x = some v ∧ RepV w Φ α v d) → (∀ x d, kindOf x = some .cell → Γ x = some d → ∃ v, cm x = some v ∧ RepV w Φ α v d) →
    (∀ x d, kindOf x = some .local → Γ' x = some d → ∃ v, bindL kindOf (ps.zip vs) m x = some v ∧ RepV w Φ α v d) ∧ (∀ x d, kindOf x = some .cell → Γ' x = some d → ∃ v, bindC kindOf (ps.zip vs) cm x = some v ∧ RepV w Φ α v d) ∧
      (∀ x, (kindOf x ≠ some .local ∧ kindOf x ≠ some .cell) → Γ' x = Γ x) ∧ vs.length = ps.length := by
  intro ps
  induction ps with
  | nil =>
    intro vs ds Γ Γ' m cm e rv _ h1 h2
    cases ds with
    | cons => exact nn e
    | nil =>
      obtain rfl := Option.some.inj e
      cases rv
      exact ⟨h1, h2, fun _ _ => rfl, rfl⟩
  | cons p ps ih =>
    intro vs ds Γ Γ' m cm e rv hk h1 h2
    cases rv with
    | nil => exact nn e
    | @cons v d vs ds r1 rs =>
      have hk' : ∀ p ∈ ps, kindOf p = some .local ∨ kindOf p = some .cell := fun q hq => hk q (List.mem_cons_of_mem _ hq)
      have hp := hk p List.mem_cons_self
      simp only [List.zip_cons_cons, bindL, bindC]
      obtain ⟨g1, g2, g3, g4⟩ := ih (m := if kindOf p = some .local then fun y => if y = p then some v else m y else m) (cm := if kindOf p = some .local then cm else fun y => if y = p then some v else cm y) e rs hk' (fun x dx hx ex => by
        by_cases hxp : x = p
        · subst hxp
          obtain rfl := Option.some.inj ((if_pos rfl).symm.trans ex)
          rw [if_pos hx]
          exact ⟨v, by simp, r1⟩
        · obtain ⟨u, hu, ru⟩ := h1 x dx hx ((if_neg hxp).symm.trans ex)
          refine ⟨u, ?_, ru⟩
          split
          · simpa [hxp] using hu
          · exact hu) (fun x dx hx ex => by
        by_cases hxp : x = p
        · subst hxp
          obtain rfl := Option.some.inj ((if_pos rfl).symm.trans ex)
          rw [if_neg (by rw [hx]; decide)]
          exact ⟨v, by simp, r1⟩
        · obtain ⟨u, hu, ru⟩ := h2 x dx hx ((if_neg hxp).symm.trans ex)
          refine ⟨u, ?_, ru⟩
          split
          · exact hu
          · simpa [hxp] using hu)
      refine ⟨g1, g2, fun x hx => ?_, by simp [g4]⟩
      rw [g3 x hx]
      unfold upd
      rw [if_neg]
      rintro rfl
      rcases hp with q | q
      · exact hx.1 q
      · exact hx.2 q

theorem Ok.take {Φ : PH} {α β : List Addr} {σ : Store} {h : Heap} (o : Ok B Φ (α ++ β) σ h) : Ok B Φ α (σ.take α.length) h where
  base := o.base
  seen := o.seen
  len := by
    have := o.len
    rw [List.length_append] at this
    rw [List.length_take]
    omega
  nodup := (List.nodup_append.mp o.nodup).1
  live := fun a ha => o.live a (List.mem_append_left _ ha)
  cell := fun k a d ha hd => by
    have hk := (List.getElem?_eq_some_iff.mp ha).1
    rw [List.getElem?_take_of_lt hk] at hd
    exact o.cell k a d (by rw [List.getElem?_append_left hk]; exact ha) hd

theorem ret_shape {α : Type} {x : Res} {f : D → Store → Option α} {y : α} (h : (match x with
    | some (.ret d, _, σ1) => f d σ1
    | _ => none) = some y) : ∃ d Γ1 σ1, x = some (.ret d, Γ1, σ1) ∧ f d σ1 = some y := by
  cases x with
  | none => exact nn h
  | some z =>
    obtain ⟨fl, Γ1, σ1⟩ := z
    cases fl with
    | ret d => exact ⟨d, Γ1, σ1, rfl, h⟩
    | _ => exact nn h
theorem finish_inv {n : Nat} {d d' : D} {σ σ' : Store} (e : finish n d σ = some (d', σ')) : (∃ k, d = .loc k ∧ n ≤ k ∧ deref σ (.loc k) = some d' ∧ σ.take n = σ') ∨ (d.isLoc = false ∧ d = d' ∧ σ.take n = σ') := by
  cases d with
  | loc k =>
    by_cases h : n ≤ k
    · obtain ⟨d1, e1, e2⟩ := msome ((if_pos h).symm.trans e)
      obtain ⟨rfl, e3⟩ := Prod.mk.inj e2
      exact .inl ⟨k, rfl, h, e1, e3⟩
    · exact nn ((if_neg h).symm.trans e)
  | _ => exact .inr ⟨rfl, psome e⟩
theorem okTarget_of {nm : Names} {x : Str} (h : okTarget nm x = true) : nm.lookup x = some .local ∨ nm.lookup x = some .cell := by
  have h : (match nm.lookup x with
    | some .local => true
    | some .cell => true
    | _ => false) = true := h
  cases hk : nm.lookup x with
  | none => rw [hk] at h; exact no h
  | some k =>
    rw [hk] at h
    cases k with
    | «local» => exact .inl rfl
    | cell => exact .inr rfl
    | _ => exact no h
theorem fn_ok {r : Nat} {F : Fns} (hF : FnsOk B r F) {fa : Addr} {o : Obj} {fd : FuncData} {body : List Stmt} {ps : List Str} {Γ0 : Ctx} {m fuel : Nat} {mv : List Str} (ho : B.H0.get? fa = some o) (hdata : o.data = .func fd) (hcd : B.H0.CodeRec fd.code fd.qualname) (hbody : fd.body = .stmts body)
    (hclo : fd.closure = []) (hgl : fd.globals = mainGlobals) (hbl : fd.builtins = builtinsNs) (hbind : ∀ vs : List Value, vs.length = ps.length → bindArgs fd ⟨vs, []⟩ = pure (ps.zip vs)) (hwf : wfFn m ps fd.scope body = true)
    (hΓ0 : ∀ x d, Γ0 x = some d → fd.scope.names.lookup x = some .globalImplicit ∧ ∃ v, B.mg x = some v ∧ Rep B.w (fun a => B.H0.get? a) v d) : FnOk B (r + 1) fa (runFn fuel F mv ps body Γ0) := by
  intro A Φ α σ s vs ds d σ' E Q hr ok rv ev g
  simp only [wfFn, Bool.and_eq_true, decide_eq_true_eq, List.all_eq_true, Bool.not_eq_true', Bool.or_eq_true, beq_iff_eq] at hwf
  obtain ⟨⟨⟨⟨⟨⟨hnd, hkinds⟩, hps⟩, hwb⟩, hco⟩, hgen⟩, hkf⟩ := hwf
  obtain ⟨Γ, e1, e2⟩ := bsome ev
  obtain ⟨dr, Γr, σr, e3, e2⟩ := ret_shape e2
  have hkp : ∀ p ∈ ps, fd.scope.names.lookup p = some .local ∨ fd.scope.names.lookup p = some .cell := fun p hp => by
    exact okTarget_of (hps p hp)
  obtain ⟨g1, g2, g3, hlen⟩ := bind_args (kindOf := fun x => fd.scope.names.lookup x) (m := fun _ => none) (cm := fun _ => none) e1 rv hkp (fun x d' hx ex => by have := (hΓ0 x d' ex).1; rw [show fd.scope.names.lookup x = _ from hx] at this; cases this)
    (fun x d' hx ex => by have := (hΓ0 x d' ex).1; rw [show fd.scope.names.lookup x = _ from hx] at this; cases this)
  refine wpAny_call (codeAny_call_cells (by have := hr.2.1; omega) (ok.keep0 _ _ ho) hdata (B.nolimit.keeps ok.keep0) (hcd.keeps ok.keep0) hbody (hbind vs hlen) hclo (fun x hx => ?_) (fun s1 x => ?_) hco hgen hkf)
  · have hx1 : x.1 ∈ ps := (List.of_mem_zip (show (x.1, x.2) ∈ ps.zip vs from hx)).1
    rcases hkp _ hx1 with q | q
    · exact .inl q
    · obtain ⟨c, hc⟩ := cellsFrom_has fd.scope.names (s.heap.objs.size + 1) x.1 (mem_of_lookup q)
      exact .inr ⟨q, by rw [hc]; rfl⟩
  · obtain ⟨h1, tk1, rfl⟩ := x.toInCall.same
    have hkeep : ∀ b ob, s.heap.get? b = some ob → h1.get? b = some ob := x.toInCall.keep
    have hns : h1.Ns (callEnvC fd s.heap.objs.size fa).locals (bindL (callEnvC fd s.heap.objs.size fa).kindOf (ps.zip vs) fun _ => none) := x.toInCall.ns
    have hL : (callEnvC fd s.heap.objs.size fa).locals = s.heap.objs.size := rfl
    have hfr : ∀ a, s.heap.objs.size ≤ a → s.heap.get? a = none := fun a ha => by
      cases e : s.heap.get? a with
      | none => rfl
      | some o' => exact absurd (Heap.lt_size e) (Nat.not_lt.mpr ha)
    have hfΦ : ∀ a, s.heap.objs.size ≤ a → Φ a = none := fun a ha => ok.seen.none_of (hfr a ha)
    have hfα : ∀ a, s.heap.objs.size ≤ a → a ∉ α := fun a ha q => by obtain ⟨y, hy⟩ := ok.live a q; rw [hfr a ha] at hy; cases hy
    have c0 : ∀ {X : Addr → Prop}, Chg X Φ Φ s.heap h1 := ⟨fun _ _ _ e => hkeep _ _ e, fun _ _ e => e, fun _ _ _ _ => rfl⟩
    have ok1 : Ok B Φ α σ h1 := ok.makes c0 fun a ob e => hkeep _ _ (ok.seen a ob e)
    have hcells : (callEnvC fd s.heap.objs.size fa).cells = cellsFrom (s.heap.objs.size + 1) fd.scope.names [] := rfl
    have hkind : ∀ y, (callEnvC fd s.heap.objs.size fa).kindOf y = fd.scope.names.lookup y := fun _ => rfl
    have habove : ∀ y c, (callEnvC fd s.heap.objs.size fa).cells.lookup y = some c → s.heap.objs.size < c := fun y c hc => x.above y c (mem_of_lookup hc)
    have nm1 : Nm B Φ α (callEnvC fd s.heap.objs.size fa) Γ h1 := by
      refine ⟨hkf, hgl, hbl, ⟨_, hns, fun y dy hy ey => g1 y dy hy ey⟩, hfΦ _ (Nat.le_refl _), hfα _ (Nat.le_refl _), fun y k hy hk => ?_, fun y z c hy hz => name_of_addr x.apart (mem_of_lookup hy) (mem_of_lookup hz), fun y dy hy ey => ?_⟩
      · have hk' : fd.scope.names.lookup y = some .cell := by
          rw [hkind] at hy
          rcases hk with rfl | rfl
          · exact hy
          · rcases hkinds _ (mem_of_lookup hy) with (q | q) | q <;> cases q
        obtain ⟨c, hc⟩ := cellsFrom_has fd.scope.names (s.heap.objs.size + 1) y (mem_of_lookup hk')
        have hc' : (callEnvC fd s.heap.objs.size fa).cells.lookup y = some c := by rw [hcells]; exact hc
        have hlt := habove y c hc'
        refine ⟨c, _, hc', x.cell y c hc', hfΦ _ (Nat.le_of_lt hlt), hfα _ (Nat.le_of_lt hlt), Nat.ne_of_gt hlt, fun dy ey => ?_⟩
        exact g2 y dy hk' ey
      · rw [hkind] at hy
        rw [g3 y ⟨by rw [hy]; decide, by rw [hy]; decide⟩] at ey
        obtain ⟨_, v, hv, r'⟩ := hΓ0 y dy ey
        exact ⟨v, hv, r'.mono ok.base⟩
    refine (snd_stmts hF fuel).2 mv body Γ σ (.ret dr) Γr σr e3 m (A.deeper (callEnvC fd s.heap.objs.size fa)) (callEnvC fd s.heap.objs.size fa) Φ α _ _ _ hr.deeper ok1 nm1 (List.all_eq_true.mpr hwb) fun f h2 tk2 Φ2 β c2 hβ o2 n2 hf => ?_
    obtain ⟨v, rfl, rv2⟩ := hf
    have back : ∀ b, h1.get? b = none → s.heap.get? b = none := fun b e => by
      cases q : s.heap.get? b with
      | none => rfl
      | some ob => rw [hkeep _ _ q] at e; cases e
    have hβs : ∀ b ∈ β, s.heap.get? b = none := fun b hb => back b (hβ b hb)
    have c02 : Chg (· ∈ α) Φ Φ2 s.heap h2 := by
      refine (c0 (X := (· ∈ α))).and c2 fun b hb => ?_
      rcases hb with hb | ⟨y, hb⟩
      · exact .inl hb
      · right
        rcases hb with ⟨_, rfl⟩ | ⟨_, hc⟩
        · exact hfr _ (Nat.le_refl _)
        · exact hfr _ (Nat.le_of_lt (habove y b hc))
    have htake : σr.take σ.length = σr.take α.length := by rw [ok.len]
    have o3 := o2.take
    show Q v _
    rcases finish_inv e2 with ⟨k, rfl, hk, e4, rfl⟩ | ⟨hl, rfl, rfl⟩
    · obtain ⟨a, ha, rfl⟩ := rv2
      have hσ := deref_inv e4
      obtain ⟨ob, hg, hΦ, hs, c⟩ := o2.cellOf ha hσ.1 hσ.2
      have hkα : α.length ≤ k := by rw [ok.len]; exact hk
      have haβ : a ∈ β := by
        rw [List.getElem?_append_right hkα] at ha
        exact List.mem_iff_getElem?.mpr ⟨_, ha⟩
      have haα : a ∉ α := fun q => (List.nodup_append.mp o2.nodup).2.2 a q a haβ rfl
      have hfa := hβs a haβ
      rw [htake] at g
      have c3 : Chg (· ∈ α) Φ (put Φ2 a ob) s.heap h2 := ⟨c02.keep, fun b x e => put_mono hΦ b x (c02.mono b x e), fun b x hb e => by
        rw [put_ne _ _ (fun q => by rw [q, hfa] at e; cases e)]
        exact c02.new b x hb e⟩
      exact g (.ref a) h2 tk2 (put Φ2 a ob) c3 (o3.freeze haα hΦ hg) (Rep.repV (.obj (put_self ..) hs (c.mono (put_mono hΦ))))
    · rw [htake] at g
      exact g v h2 tk2 Φ2 c02 o3 (rv2.rep hl).repV
end
end Mine

-- SoD
namespace Mine
open PySem PySem.SeqAt PySem.MeetsSeq
set_option linter.unusedSectionVars false
set_option linter.unusedSimpArgs false
set_option linter.unusedVariables false

/-! ## the text's functions -/
noncomputable def stmts : List Stmt := PySem.Challenge.pw_rg0001_01.main.body
noncomputable def fuel0 : Nat := 60
noncomputable def noCtx : Ctx := fun _ => none
noncomputable def restL : List Int := [3, 0, 1, 1, 2, 1, 1, 0, 1, 0, 1, 3, 1, 0, 0, 0]
noncomputable def restD : D := .tup (restL.map .int)
noncomputable def ctxRest : Ctx := fun x => if x = Str.ofString "_law_rest" then some restD else none
noncomputable def mkFn (F : Fns) (x : Str) (mv : List Str) (Γ0 : Ctx) : Fn := match defOf x stmts with
  | some (ps, b, _) => runFn fuel0 F mv ps b Γ0
  | none => fun _ _ => none
noncomputable def addFn (F : Fns) (x : Str) (f : Fn) : Fns := fun y => if y = x then some f else F y
noncomputable def F0 : Fns := fun _ => none

/-- a def of the text, as it stands in the heap -/
noncomputable def IsRec (B : Bs) (x : Str) (ps : List Str) (b : List Stmt) (sc : Scope) : Prop :=
  ∃ fa o fd, B.mg x = some (.ref fa) ∧ B.H0.get? fa = some o ∧ o.data = .func fd ∧ B.H0.CodeRec fd.code fd.qualname ∧ fd.body = .stmts b ∧ fd.closure = [] ∧ fd.globals = mainGlobals ∧ fd.builtins = builtinsNs ∧ fd.scope = sc ∧
    ∀ vs : List Value, vs.length = ps.length → bindArgs fd ⟨vs, []⟩ = pure (ps.zip vs)

section
variable {B : Bs} {r : Nat} {F : Fns}

theorem free_base (h : ∀ x, x ∈ ([Str.ofString "len", Str.ofString "range", Str.ofString "max", Str.ofString "sorted", Str.ofString "str", Str.ofString "list"] : List Str) → B.mg x = none) : FnsOk B 0 F0 := ⟨fun _ _ e => by simp [F0] at e, h⟩

theorem rec_ok (hF : FnsOk B r F) {x : Str} {mv : List Str} {Γ0 : Ctx} {ps : List Str} {b : List Stmt} {sc : Scope} (hdef : defOf x stmts = some (ps, b, sc)) (hrec : IsRec B x ps b sc) (hwf : wfFn 60 ps sc b = true)
    (hΓ0 : ∀ y d, Γ0 y = some d → sc.names.lookup y = some .globalImplicit ∧ ∃ v, B.mg y = some v ∧ Rep B.w (fun a => B.H0.get? a) v d) : FnsOk B (r + 1) (addFn F x (mkFn F x mv Γ0)) := by
  obtain ⟨fa, o, fd, h1, h2, h3, h4, h5, h6, h7, h8, rfl, h9⟩ := hrec
  refine ⟨fun y f e => ?_, hF.free⟩
  unfold addFn at e
  split at e
  · rename_i hy
    subst hy
    simp only [Option.some.injEq] at e
    subst e
    refine ⟨fa, o, fd, h1, h2, h3, ?_⟩
    unfold mkFn
    rw [hdef]
    exact fn_ok hF h2 h3 h4 h5 h6 h7 h8 h9 hwf hΓ0
  · obtain ⟨fa', o', fd', q1, q2, q3, q4⟩ := hF.fn y f e
    exact ⟨fa', o', fd', q1, q2, q3, q4.mono (Nat.le_succ r)⟩

theorem noCtx_ok {sc : Scope} : ∀ y d, noCtx y = some d → sc.names.lookup y = some .globalImplicit ∧ ∃ v, B.mg y = some v ∧ Rep B.w (fun a => B.H0.get? a) v d := fun y d e => by simp [noCtx] at e

theorem filterMap_same {α β : Type} {f g : α → Option β} : ∀ {l : List α}, (∀ x ∈ l, f x = g x) → l.filterMap f = l.filterMap g
  | [], _ => rfl
  | x :: l, h => by rw [List.filterMap_cons, List.filterMap_cons, h x List.mem_cons_self, filterMap_same fun y hy => h y (List.mem_cons_of_mem _ hy)]

theorem bind_plain {fd : FuncData} {ps : List Str} {vs : List Value} (h1 : fd.params.posonlyargs = []) (h2 : fd.params.args.map (·.arg) = ps) (h3 : fd.params.vararg = none) (h4 : fd.params.kwonlyargs = []) (h5 : fd.params.kwarg = none) (h6 : fd.defaults = .none) (hn : ps.Nodup)
    (hl : vs.length = ps.length) : bindArgs fd ⟨vs, []⟩ = pure (ps.zip vs) := by
  have look : ∀ (ps : List Str) (vs : List Value), ps.Nodup → vs.length = ps.length → (∀ p ∈ ps, ((ps.zip vs).lookup p).isSome = true) ∧ (ps.filterMap fun n => ((ps.zip vs).lookup n).map (n, ·)) = ps.zip vs := by
    intro ps
    induction ps with
    | nil => intro vs _ _; simp
    | cons p ps ih =>
      intro vs hn hl
      cases vs with
      | nil => simp at hl
      | cons v vs =>
        simp only [List.nodup_cons] at hn
        obtain ⟨g1, g2⟩ := ih vs hn.2 (by simpa using hl)
        have key : ∀ q ∈ ps, (List.zip (p :: ps) (v :: vs)).lookup q = (ps.zip vs).lookup q := fun q hq => by
          rw [List.zip_cons_cons, List.lookup_cons]
          have : (q == p) = false := by rw [beq_eq_false_iff_ne]; rintro rfl; exact hn.1 hq
          rw [this]
        refine ⟨fun q hq => ?_, ?_⟩
        · rcases List.mem_cons.mp hq with rfl | hq
          · rw [List.zip_cons_cons, List.lookup_cons]; simp
          · rw [key q hq]; exact g1 q hq
        · rw [List.filterMap_cons]
          have hp : (List.zip (p :: ps) (v :: vs)).lookup p = some v := by rw [List.zip_cons_cons, List.lookup_cons]; simp
          rw [hp]
          simp only [Option.map_some, List.zip_cons_cons]
          congr 1
          refine Eq.trans (filterMap_same fun q hq => ?_) g2
          have := key q hq
          rw [List.zip_cons_cons] at this
          rw [this]
  obtain ⟨g1, g2⟩ := look ps vs hn hl
  have hmiss : (ps.filter fun n => ((ps.zip vs).lookup n).isNone) = [] := by
    rw [List.filter_eq_nil_iff]
    intro q hq
    have := g1 q hq
    cases hh : (ps.zip vs).lookup q with
    | none => rw [hh] at this; cases this
    | some _ => simp
  have hseq : seqItems? Value.none = pure none := rfl
  have htake : ps.take ps.length = ps := List.take_length
  unfold bindArgs
  simp only [h1, h2, h3, h4, h5, h6, List.map_nil, List.nil_append, List.append_nil, List.forIn_nil, pure_bind, hseq, Option.getD_none, List.drop_nil, List.length_nil, Nat.sub_zero, htake, hmiss, hl, gt_iff_lt, Nat.lt_irrefl, decide_false, Bool.false_and, Bool.false_eq_true, if_false, List.isEmpty_nil, Bool.not_true,
    List.drop_length, List.zip_nil_left, List.zip_nil_right, g2, false_and]
end
end Mine

-- SoE
namespace Mine
open PySem PySem.SeqAt PySem.MeetsSeq

noncomputable def chkFn (x : Str) : Bool := match defOf x stmts with
  | some (ps, b, sc) => wfFn 60 ps sc b
  | none => false
noncomputable def fn1 : Fn := mkFn F0 (Str.ofString "item_name") [] noCtx
noncomputable def T1 : Fns := addFn F0 (Str.ofString "item_name") fn1
noncomputable def fn2 : Fn := mkFn T1 (Str.ofString "named_units") [Str.ofString "found"] noCtx
noncomputable def T2 : Fns := addFn T1 (Str.ofString "named_units") fn2
noncomputable def fn3 : Fn := mkFn T2 (Str.ofString "bodies_ahead") [] noCtx
noncomputable def T3 : Fns := addFn T2 (Str.ofString "bodies_ahead") fn3
noncomputable def fn4 : Fn := mkFn T3 (Str.ofString "places_of") [Str.ofString "found"] noCtx
noncomputable def T4 : Fns := addFn T3 (Str.ofString "places_of") fn4
noncomputable def fn5 : Fn := mkFn T4 (Str.ofString "needs_of") [Str.ofString "keys", Str.ofString "found"] noCtx
noncomputable def T5 : Fns := addFn T4 (Str.ofString "needs_of") fn5
noncomputable def fn6 : Fn := mkFn T5 (Str.ofString "whole_needs") [Str.ofString "found"] noCtx
noncomputable def T6 : Fns := addFn T5 (Str.ofString "whole_needs") fn6
noncomputable def fn7 : Fn := mkFn T6 (Str.ofString "reached_parts") [Str.ofString "waiting", Str.ofString "found"] noCtx
noncomputable def T7 : Fns := addFn T6 (Str.ofString "reached_parts") fn7
noncomputable def fn8 : Fn := mkFn T7 (Str.ofString "all_needs") [] noCtx
noncomputable def T8 : Fns := addFn T7 (Str.ofString "all_needs") fn8
noncomputable def fn9 : Fn := mkFn T8 (Str.ofString "order_parts") [Str.ofString "done", Str.ofString "order"] noCtx
noncomputable def T9 : Fns := addFn T8 (Str.ofString "order_parts") fn9
noncomputable def fn10 : Fn := mkFn T9 (Str.ofString "_law_gulp") [] ctxRest
noncomputable def T10 : Fns := addFn T9 (Str.ofString "_law_gulp") fn10
noncomputable def fn11 : Fn := mkFn T10 (Str.ofString "_law_row") [] noCtx
noncomputable def T11 : Fns := addFn T10 (Str.ofString "_law_row") fn11
noncomputable def fn12 : Fn := mkFn T11 (Str.ofString "_law_moved") [Str.ofString "place", Str.ofString "behind", Str.ofString "stays"] noCtx
noncomputable def T12 : Fns := addFn T11 (Str.ofString "_law_moved") fn12
noncomputable def fn13 : Fn := mkFn T12 (Str.ofString "_law_needed") [] noCtx
noncomputable def T13 : Fns := addFn T12 (Str.ofString "_law_needed") fn13
noncomputable def fn14 : Fn := mkFn T13 (Str.ofString "_law_ordered") [] noCtx
noncomputable def T14 : Fns := addFn T13 (Str.ofString "_law_ordered") fn14
noncomputable def fn15 : Fn := mkFn T14 (Str.ofString "law") [Str.ofString "bowl", Str.ofString "rows"] noCtx
noncomputable def T15 : Fns := addFn T14 (Str.ofString "law") fn15
noncomputable def allNames : List Str := [Str.ofString "item_name", Str.ofString "named_units", Str.ofString "bodies_ahead", Str.ofString "places_of", Str.ofString "needs_of", Str.ofString "whole_needs", Str.ofString "reached_parts", Str.ofString "all_needs", Str.ofString "order_parts", Str.ofString "_law_gulp", Str.ofString "_law_row", Str.ofString "_law_moved", Str.ofString "_law_needed", Str.ofString "_law_ordered", Str.ofString "law"]
theorem chk1 : chkFn (Str.ofString "item_name") = true := by decide +kernel
theorem chk2 : chkFn (Str.ofString "named_units") = true := by decide +kernel
theorem chk3 : chkFn (Str.ofString "bodies_ahead") = true := by decide +kernel
theorem chk4 : chkFn (Str.ofString "places_of") = true := by decide +kernel
theorem chk5 : chkFn (Str.ofString "needs_of") = true := by decide +kernel
theorem chk6 : chkFn (Str.ofString "whole_needs") = true := by decide +kernel
theorem chk7 : chkFn (Str.ofString "reached_parts") = true := by decide +kernel
theorem chk8 : chkFn (Str.ofString "all_needs") = true := by decide +kernel
theorem chk9 : chkFn (Str.ofString "order_parts") = true := by decide +kernel
theorem chk10 : chkFn (Str.ofString "_law_gulp") = true := by decide +kernel
theorem chk11 : chkFn (Str.ofString "_law_row") = true := by decide +kernel
theorem chk12 : chkFn (Str.ofString "_law_moved") = true := by decide +kernel
theorem chk13 : chkFn (Str.ofString "_law_needed") = true := by decide +kernel
theorem chk14 : chkFn (Str.ofString "_law_ordered") = true := by decide +kernel
theorem chk15 : chkFn (Str.ofString "law") = true := by decide +kernel
theorem chkRest : (match defOf (Str.ofString "_law_gulp") stmts with | some (_, _, sc) => sc.names.lookup (Str.ofString "_law_rest") == some .globalImplicit | none => false) = true := by decide +kernel

theorem step_ok {B : Bs} {r : Nat} {F : Fns} (hF : FnsOk B r F) {x : Str} {mv : List Str} {Γ0 : Ctx} (hc : chkFn x = true) (hrec : ∀ ps b sc, defOf x stmts = some (ps, b, sc) → IsRec B x ps b sc)
    (hΓ0 : ∀ ps b sc, defOf x stmts = some (ps, b, sc) → ∀ y d, Γ0 y = some d → sc.names.lookup y = some .globalImplicit ∧ ∃ v, B.mg y = some v ∧ Rep B.w (fun a => B.H0.get? a) v d) : FnsOk B (r + 1) (addFn F x (mkFn F x mv Γ0)) := by
  unfold chkFn at hc
  split at hc
  · rename_i ps b sc hd
    exact rec_ok hF hd (hrec _ _ _ hd) hc (hΓ0 _ _ _ hd)
  · cases hc

theorem table_ok {B : Bs} (hfree : ∀ x, x ∈ ([Str.ofString "len", Str.ofString "range", Str.ofString "max", Str.ofString "sorted", Str.ofString "str", Str.ofString "list"] : List Str) → B.mg x = none)
    (hrec : ∀ x ∈ allNames, ∀ ps b sc, defOf x stmts = some (ps, b, sc) → IsRec B x ps b sc) (hrest : ∃ v, B.mg (Str.ofString "_law_rest") = some v ∧ Rep B.w (fun a => B.H0.get? a) v restD) : FnsOk B 15 T15 := by
  have h0 := free_base hfree
  have h1 : FnsOk B 1 T1 := step_ok h0 chk1 (hrec _ (by simp [allNames])) fun _ _ _ _ => noCtx_ok
  have h2 : FnsOk B 2 T2 := step_ok h1 chk2 (hrec _ (by simp [allNames])) fun _ _ _ _ => noCtx_ok
  have h3 : FnsOk B 3 T3 := step_ok h2 chk3 (hrec _ (by simp [allNames])) fun _ _ _ _ => noCtx_ok
  have h4 : FnsOk B 4 T4 := step_ok h3 chk4 (hrec _ (by simp [allNames])) fun _ _ _ _ => noCtx_ok
  have h5 : FnsOk B 5 T5 := step_ok h4 chk5 (hrec _ (by simp [allNames])) fun _ _ _ _ => noCtx_ok
  have h6 : FnsOk B 6 T6 := step_ok h5 chk6 (hrec _ (by simp [allNames])) fun _ _ _ _ => noCtx_ok
  have h7 : FnsOk B 7 T7 := step_ok h6 chk7 (hrec _ (by simp [allNames])) fun _ _ _ _ => noCtx_ok
  have h8 : FnsOk B 8 T8 := step_ok h7 chk8 (hrec _ (by simp [allNames])) fun _ _ _ _ => noCtx_ok
  have h9 : FnsOk B 9 T9 := step_ok h8 chk9 (hrec _ (by simp [allNames])) fun _ _ _ _ => noCtx_ok
  have h10 : FnsOk B 10 T10 := step_ok h9 chk10 (hrec _ (by simp [allNames])) fun ps b sc hd y d e => by
    unfold ctxRest at e
    split at e
    · rename_i hy
      subst hy
      simp only [Option.some.injEq] at e
      subst e
      have := chkRest
      rw [hd] at this
      exact ⟨by simpa using this, hrest⟩
    · cases e
  have h11 : FnsOk B 11 T11 := step_ok h10 chk11 (hrec _ (by simp [allNames])) fun _ _ _ _ => noCtx_ok
  have h12 : FnsOk B 12 T12 := step_ok h11 chk12 (hrec _ (by simp [allNames])) fun _ _ _ _ => noCtx_ok
  have h13 : FnsOk B 13 T13 := step_ok h12 chk13 (hrec _ (by simp [allNames])) fun _ _ _ _ => noCtx_ok
  have h14 : FnsOk B 14 T14 := step_ok h13 chk14 (hrec _ (by simp [allNames])) fun _ _ _ _ => noCtx_ok
  have h15 : FnsOk B 15 T15 := step_ok h14 chk15 (hrec _ (by simp [allNames])) fun _ _ _ _ => noCtx_ok
  exact h15

/-- the head: the text's law as the caller calls it -/
theorem law_call {B : Bs} (hfree : ∀ x, x ∈ ([Str.ofString "len", Str.ofString "range", Str.ofString "max", Str.ofString "sorted", Str.ofString "str", Str.ofString "list"] : List Str) → B.mg x = none)
    (hrec : ∀ x ∈ allNames, ∀ ps b sc, defOf x stmts = some (ps, b, sc) → IsRec B x ps b sc) (hrest : ∃ v, B.mg (Str.ofString "_law_rest") = some v ∧ Rep B.w (fun a => B.H0.get? a) v restD)
    {fa a : Addr} {vs : List Value} {n : Nat} {ns : List Int} {A : Around} {E Q : Value → Shared → Prop} {s : Shared} (hs : s.heap = B.H0) (hfa : B.mg (Str.ofString "law") = some (.ref fa)) (hA : Room 15 A)
    (ha : B.H0.get? a = some (lstO vs n)) (hsys : a ≠ sysModules) (hi : PyProof.Rows.IntsAre vs ns) (hrun : fn15 [.lst (ns.map .int)] [] = some (.bool true, []))
    (hQ : ∀ h' tk, (∀ b o, s.heap.get? b = some o → h'.get? b = some o) → Q (.bool true) { s with heap := h', toks := tk }) : wpAny (model B.prog B.w) A (call (.ref fa) [.ref a]) Q E s := by
  have hT := table_ok hfree hrec hrest
  obtain ⟨fa', o, fd, h1, h2, h3, h4⟩ := hT.fn (Str.ofString "law") fn15 (by unfold T15 addFn; rw [if_pos rfl])
  rw [hfa] at h1
  obtain rfl : fa = fa' := by injection h1 with h1; injection h1
  refine h4 A (fun b => B.H0.get? b) [] [] s [.ref a] [.lst (ns.map .int)] (.bool true) [] E Q hA ⟨fun _ _ e => e, fun b ob e => by rw [hs]; exact e, rfl, List.nodup_nil, fun _ h => by simp at h, fun k b d h => by simp at h⟩ (.cons (Rep.repV (.obj ha hsys (.lst (rep_ints hi)))) .nil) hrun fun v h' tk Φ' c o' rv => ?_
  obtain rfl := Rep.bool_inv rv
  exact hQ h' tk fun b ob e => c.keep b ob (by simp) e
end Mine

-- SoF
namespace Mine
open PySem PySem.W PyProof.Rows
set_option linter.unusedSectionVars false
set_option linter.unusedSimpArgs false
set_option linter.unusedVariables false

noncomputable def plainP (a : Arguments) : Bool := a.posonlyargs.isEmpty && a.vararg.isNone && a.kwonlyargs.isEmpty && a.kwarg.isNone && decide (a.args.map (·.arg)).Nodup
noncomputable def recD (p : Program) (x : Str) : Option (List Str × List Stmt × Scope) := ((recsOf p).find? fun d => d.name == x && plainP d.params).map fun d => (d.params.args.map (·.arg), d.body, d.scope)

theorem isRec_of {p : Program} {loose : List Str} {mean : ExcName → Option Value} {B : Bs} (T : Top p loose mean B.mg B.mb B.H0) {x : Str} {ps : List Str} {b : List Stmt} {sc : Scope} (e : recD p x = some (ps, b, sc)) : IsRec B x ps b sc := by
  unfold recD at e
  simp only [Option.map_eq_some_iff, Prod.mk.injEq] at e
  obtain ⟨d, hd, rfl, rfl, rfl⟩ := e
  have hm := List.mem_of_find?_eq_some hd
  have hp := List.find?_some hd
  simp only [Bool.and_eq_true, beq_iff_eq] at hp
  obtain ⟨rfl, hp⟩ := hp
  simp only [plainP, Bool.and_eq_true, List.isEmpty_iff, Option.isNone_iff_eq_none, decide_eq_true_eq] at hp
  obtain ⟨⟨⟨⟨p1, p2⟩, p3⟩, p4⟩, p5⟩ := hp
  obtain ⟨fa, o, pm, code, doc, h1, h2, h3, h4⟩ := T.fn d hm
  exact ⟨fa, o, _, h1, h2, h3, h4, rfl, rfl, rfl, rfl, rfl, fun vs hl => bind_plain p1 rfl p2 p3 p4 rfl p5 hl⟩
end Mine

-- SpA
namespace Mine
open PySem

theorem map_toNat_inj : ∀ {a b : List Char}, a.map Char.toNat = b.map Char.toNat → a = b
  | [], [], _ => rfl
  | [], _ :: _, h => by simp at h
  | _ :: _, [], h => by simp at h
  | x :: a, y :: b, h => by
    simp only [List.map_cons, List.cons.injEq] at h
    rw [map_toNat_inj h.2, show x = y from Char.ext (UInt32.toNat_inj.mp h.1)]
theorem ofS_inj {a b : String} : (Str.ofString a = Str.ofString b) = (a = b) := by
  apply propext
  refine ⟨fun h => ?_, fun h => by rw [h]⟩
  rw [Str.ofString_eq_toList, Str.ofString_eq_toList] at h
  injection h with h
  have := map_toNat_inj (List.toArray_inj h)
  exact String.toList_inj.mp this

inductive Srt | g | p | b
  deriving DecidableEq
structure Row where
  at' : Int
  name : Str
  sort : Srt
  names : List Str
  deriving DecidableEq
noncomputable def S (x : String) : Str := Str.ofString x
noncomputable def sortS : Srt → Str
  | .g => Str.ofString "generic"
  | .p => Str.ofString "package"
  | .b => Str.ofString "body"
noncomputable def nodeD (n : Str) : D := .tup [.str (Str.ofString "name"), .str n]
noncomputable def itemD (r : Row) : D := match r.sort with
  | .g => .tup [.str (Str.ofString "generic"), .int 1, .lst [], .tup [.str (Str.ofString "package"), .int 1, .str r.name, .lst [], .lst []]]
  | .p => .tup [.str (Str.ofString "package"), .int 1, .str r.name, .lst [], .lst []]
  | .b => .tup [.str (Str.ofString "packbody"), .int 1, .str r.name, .lst [], .lst [], .lst []]
noncomputable def ctxD (r : Row) : D := .lst [.tup [.str (Str.ofString "with"), .int 1, .lst ((Str.ofString "text_io" :: r.names).map nodeD)]]
noncomputable def unitD (r : Row) : D := .tup [.str (Str.ofString "unit"), .int (10 + r.at'), ctxD r, itemD r]
noncomputable def rowD (r : Row) : D := .tup [.str r.name, .str (sortS r.sort), .lst (r.names.map .str), unitD r]

theorem item_name_spec (r : Row) (σ : Store) : fn1 [itemD r] σ = some (.str r.name, σ.take σ.length) := by
  obtain ⟨a, n, s, ns⟩ := r
  cases s <;> kernel_rfl
end Mine

-- SpB
namespace Mine
open PySem
set_option maxRecDepth 10000
set_option linter.unusedSimpArgs false
set_option linter.unusedVariables false

theorem ofS_beq {a b : String} : (Str.ofString a == Str.ofString b) = (a == b) := by
  rw [Bool.eq_iff_iff]
  simp only [beq_iff_eq, ofS_inj]

noncomputable def bowlD (k : Int) (row : List Int) : D := .dct [(.s (Str.ofString "at"), .int k), (.s (Str.ofString "row"), .lst (row.map .int))]

theorem bowl_get1 {a b : D} : assocGet [(Key.s (Str.ofString "at"), a), (Key.s (Str.ofString "row"), b)] (Key.s (Str.ofString "at")) = some a := by simp [assocGet]
theorem bowl_get2 {a b : D} : assocGet [(Key.s (Str.ofString "at"), a), (Key.s (Str.ofString "row"), b)] (Key.s (Str.ofString "row")) = some b := by simp [assocGet, ofS_inj]
theorem bowl_set {a b c : D} : assocSet [(Key.s (Str.ofString "at"), a), (Key.s (Str.ofString "row"), b)] (Key.s (Str.ofString "at")) c = [(Key.s (Str.ofString "at"), c), (Key.s (Str.ofString "row"), b)] := by simp [assocSet, bowl_get1, ofS_inj]
theorem bowl_kinds {a b : D} {x : Str} : kindsOk (Key.s x) [(Key.s (Str.ofString "at"), a), (Key.s (Str.ofString "row"), b)] = true := rfl
theorem T9_len : T9 (Str.ofString "len") = none := by kernel_rfl

theorem rest_get (n : Nat) (h : n < 16) : ∃ v : Int, 0 ≤ v ∧ (restL.map D.int)[n]? = some (.int v) := by
  have h2 : ∀ m, m < 16 → ∃ v : Int, 0 ≤ v ∧ (restL.map D.int)[m]? = some (.int v) := by
    intro m hm
    match m, hm with
    | 0, _ => exact ⟨3, by decide, rfl⟩
    | 1, _ => exact ⟨0, by decide, rfl⟩
    | 2, _ => exact ⟨1, by decide, rfl⟩
    | 3, _ => exact ⟨1, by decide, rfl⟩
    | 4, _ => exact ⟨2, by decide, rfl⟩
    | 5, _ => exact ⟨1, by decide, rfl⟩
    | 6, _ => exact ⟨1, by decide, rfl⟩
    | 7, _ => exact ⟨0, by decide, rfl⟩
    | 8, _ => exact ⟨1, by decide, rfl⟩
    | 9, _ => exact ⟨0, by decide, rfl⟩
    | 10, _ => exact ⟨1, by decide, rfl⟩
    | 11, _ => exact ⟨3, by decide, rfl⟩
    | 12, _ => exact ⟨1, by decide, rfl⟩
    | 13, _ => exact ⟨0, by decide, rfl⟩
    | 14, _ => exact ⟨0, by decide, rfl⟩
    | 15, _ => exact ⟨0, by decide, rfl⟩
    | m + 16, h => omega
  exact h2 n h

end Mine

-- SpC
namespace Mine
open PySem
set_option maxRecDepth 10000
set_option linter.unusedSimpArgs false
set_option linter.unusedVariables false

/-! ## tools for symbolic runs -/
theorem sameAt_self {k : Nat} {σ : Store} {d : D} (h : σ[k]? = some d) : sameAt (.loc k) σ σ = true := by
  simp only [sameAt, h, beqD_refl]
theorem sameAt_set {k j : Nat} {σ : Store} {d x : D} (h : σ[k]? = some d) (hj : j ≠ k) : sameAt (.loc k) σ (σ.set j x) = true := by
  simp only [sameAt, h, List.getElem?_set_ne hj, beqD_refl]
theorem sameAt_lst {l : List D} {σ σ' : Store} : sameAt (.lst l) σ σ' = true := rfl
theorem sameAt_rng {n : Int} {σ σ' : Store} : sameAt (.rng n) σ σ' = true := rfl
theorem sameAt_nil {σ σ' : Store} : sameAt .nil σ σ' = true := rfl

theorem compL_map {α : Type} (enc : α → D) (p : α → Bool) (g : α → D) {f : D → Store → Option (List D × Store)} {src : D} {σ : Store} (hs : sameAt src σ σ = true) :
    ∀ (R : List α), (∀ r ∈ R, f (enc r) σ = some (if p r = true then [g r] else [], σ)) → compL src f (R.map enc) σ = some ((R.filter p).map g, σ)
  | [], _ => rfl
  | r :: R, h => by
    have h1 := h r List.mem_cons_self
    have ih := compL_map enc p g hs R fun q hq => h q (List.mem_cons_of_mem _ hq)
    simp only [List.map_cons, compL, h1, hs, if_true, ih, List.filter_cons]
    by_cases hp : p r = true
    · simp [hp]
    · simp [hp]
theorem compL_mapAll {α : Type} (enc : α → D) (g : α → D) {f : D → Store → Option (List D × Store)} {src : D} {σ : Store} (hs : sameAt src σ σ = true) (R : List α) (h : ∀ r ∈ R, f (enc r) σ = some ([g r], σ)) : compL src f (R.map enc) σ = some (R.map g, σ) := by
  have := compL_map enc (fun _ => true) g hs R (fun r hr => by simpa using h r hr)
  rw [List.filter_eq_self.mpr (fun _ _ => rfl)] at this
  exact this

theorem items_loc {k : Nat} {l : List D} (h : l.length ≤ 1000) : itemsSrc (.loc k) (.lst l) = some l := by
  simp only [itemsSrc, D.isLoc, if_true, itemsOf, h]
theorem items_lst {l : List D} (h : l.length ≤ 1000) : itemsSrc (.lst l) (.lst l) = some l := by
  simp only [itemsSrc, D.isLoc, itemsOf, h, Bool.false_eq_true, if_false, if_true]

section
variable {σ : Store} {a b : Int} {x y z w : Str} {l l' : List D} {kvs : List (Key × D)} {r : Row} {d e f g : D} {k : Nat} {c : Bool}
theorem deref_int : deref σ (.int a) = some (.int a) := rfl
theorem deref_str : deref σ (.str x) = some (.str x) := rfl
theorem deref_bool : deref σ (.bool c) = some (.bool c) := rfl
theorem deref_tup : deref σ (.tup l) = some (.tup l) := rfl
theorem deref_lst : deref σ (.lst l) = some (.lst l) := rfl
theorem deref_dct : deref σ (.dct kvs) = some (.dct kvs) := rfl
theorem deref_rng : deref σ (.rng a) = some (.rng a) := rfl
theorem deref_row : deref σ (rowD r) = some (rowD r) := rfl
theorem deref_locL (h : σ[k]? = some (.lst l)) : deref σ (.loc k) = some (.lst l) := by simp only [deref, h]
theorem deref_locD (h : σ[k]? = some (.dct kvs)) : deref σ (.loc k) = some (.dct kvs) := by simp only [deref, h]
theorem isLoc_nil : D.isLoc .nil = false := rfl
theorem isLoc_int : D.isLoc (.int a) = false := rfl
theorem isLoc_str : D.isLoc (.str x) = false := rfl
theorem isLoc_bool : D.isLoc (.bool c) = false := rfl
theorem isLoc_tup : D.isLoc (.tup l) = false := rfl
theorem isLoc_lst : D.isLoc (.lst l) = false := rfl
theorem isLoc_dct : D.isLoc (.dct kvs) = false := rfl
theorem isLoc_rng : D.isLoc (.rng a) = false := rfl
theorem isLoc_row : D.isLoc (rowD r) = false := rfl
theorem isLoc_loc : D.isLoc (.loc k) = true := rfl
theorem plain_nil : plainAll [] = true := rfl
theorem plain_cons : plainAll (d :: l) = (!d.isLoc && plainAll l) := rfl
theorem cmp_eq_int : cmpD σ .Eq (.int a) (.int b) = some (decide (a = b)) := rfl
theorem cmp_ne_int : cmpD σ .NotEq (.int a) (.int b) = some (!decide (a = b)) := rfl
theorem cmp_le_int : cmpD σ .LtE (.int a) (.int b) = some (decide (a ≤ b)) := rfl
theorem cmp_lt_int : cmpD σ .Lt (.int a) (.int b) = some (decide (a < b)) := rfl
theorem cmp_gt_int : cmpD σ .Gt (.int a) (.int b) = some (decide (a > b)) := rfl
theorem cmp_eq_str : cmpD σ .Eq (.str x) (.str y) = some (decide (x = y)) := rfl
theorem cmp_ne_str : cmpD σ .NotEq (.str x) (.str y) = some (!decide (x = y)) := rfl
theorem eq_nil (l : List D) : eqD 12 (.lst l) (.lst []) = some l.isEmpty := by
  cases l <;> rfl
theorem cmp_eq_nil : cmpD σ .Eq (.lst l) (.lst []) = some l.isEmpty := by cases l <;> rfl
theorem cmp_ne_nil : cmpD σ .NotEq (.lst l) (.lst []) = some (!l.isEmpty) := by cases l <;> rfl
theorem cmp_eq_pair : cmpD σ .Eq (.tup [.str x, .str y]) (.tup [.str z, .str w]) = some (decide (x = z) && decide (y = w)) := by
  show some (decide (x = z) && (decide (y = w) && true)) = _
  rw [Bool.and_true]
theorem cmp_in_two : cmpD σ .In (.str x) (.tup [.str y, .str z]) = some (decide (y = x) || decide (z = x)) := by
  show some (decide (y = x) || (decide (z = x) || false)) = _
  rw [Bool.or_false]
theorem bin_add_int : binD .Add (.int a) (.int b) = some (.int (a + b)) := rfl
theorem bin_sub_int : binD .Sub (.int a) (.int b) = some (.int (a - b)) := rfl
theorem bin_mod_int (h : 0 < b) : binD .Mod (.int a) (.int b) = some (.int (a % b)) := if_pos h
theorem bin_add_str : binD .Add (.str x) (.str y) = if x.length + y.length ≤ 1000 then some (.str (x ++ y)) else none := rfl
theorem bin_add_lst : binD .Add (.lst l) (.lst l') = if l.length + l'.length ≤ 1000 then some (.lst (l ++ l')) else none := rfl
theorem sub_lst : subD (.lst l) (.int a) = idx l a := rfl
theorem sub_tup : subD (.tup l) (.int a) = idx l a := rfl
theorem idx_0 : idx (d :: l) 0 = some d := rfl
theorem idx_1 : idx (d :: e :: l) 1 = some e := rfl
theorem idx_2 : idx (d :: e :: f :: l) 2 = some f := rfl
theorem idx_3 : idx (d :: e :: f :: g :: l) 3 = some g := rfl
theorem sub_row0 : subD (rowD r) (.int 0) = some (.str r.name) := rfl
theorem sub_row1 : subD (rowD r) (.int 1) = some (.str (sortS r.sort)) := rfl
theorem sub_row2 : subD (rowD r) (.int 2) = some (.lst (r.names.map .str)) := rfl
theorem sub_row3 : subD (rowD r) (.int 3) = some (unitD r) := rfl
theorem slice_row2 : sliceD (rowD r) none (some 2) = some (.tup [.str r.name, .str (sortS r.sort)]) := rfl
theorem sort_body {s : Srt} : decide (sortS s = Str.ofString "body") = decide (s = .b) := by cases s <;> simp [sortS, ofS_inj]
theorem sort_two {s : Srt} : (decide (Str.ofString "generic" = sortS s) || decide (Str.ofString "package" = sortS s)) = !decide (s = .b) := by cases s <;> simp [sortS, ofS_inj]
end

noncomputable def isBodyOf (n : Str) (r : Row) : Bool := decide (r.name = n) && decide (r.sort = .b)
noncomputable def waitingR (R : List Row) : List Row := R.filter fun r => !decide (r.sort = .b) && (R.filter (isBodyOf r.name)).isEmpty
noncomputable def aheadR (R : List Row) : List Str := (R.filter fun r => !decide (r.sort = .b)).map (·.name)

end Mine

-- SpD
namespace Mine
open PySem
set_option maxRecDepth 10000
set_option linter.unusedSimpArgs false
set_option linter.unusedVariables false

noncomputable def bodyOf (x : Str) : List Stmt := match defOf x stmts with
  | some (_, b, _) => b
  | none => []
theorem exSs_step {n : Nat} {F : Fns} {mv : List Str} {st : Stmt} {rest : List Stmt} {Γ Γ1 : Ctx} {σ σ1 : Store} {res : Res} (h1 : exS n F mv st Γ σ = some (.next, Γ1, σ1)) (h2 : exSs n F mv rest Γ1 σ1 = res) : exSs (n + 1) F mv (st :: rest) Γ σ = res := by
  rw [sSs_cons, h1]; exact h2
theorem exSs_nil {n : Nat} {F : Fns} {mv : List Str} {Γ : Ctx} {σ : Store} : exSs (n + 1) F mv [] Γ σ = some (.next, Γ, σ) := rfl
theorem exSs_ret {n : Nat} {F : Fns} {mv : List Str} {st : Stmt} {rest : List Stmt} {Γ Γ1 : Ctx} {σ σ1 : Store} {d : D} (h1 : exS n F mv st Γ σ = some (.ret d, Γ1, σ1)) : exSs (n + 1) F mv (st :: rest) Γ σ = some (.ret d, Γ1, σ1) := by
  rw [sSs_cons, h1]; rfl
theorem runFn_of {fuel : Nat} {F : Fns} {mv ps : List Str} {b : List Stmt} {Γ0 Γ Γr : Ctx} {args : List D} {σ σ1 : Store} {d : D} {res : D × Store} (h1 : bindArgsD ps args Γ0 = some Γ) (h2 : exSs fuel F mv b Γ σ = some (.ret d, Γr, σ1)) (h3 : finish σ.length d σ1 = some res) :
    runFn fuel F mv ps b Γ0 args σ = some res := by
  show (bindArgsD ps args Γ0).bind _ = _
  rw [h1]
  show (match exSs fuel F mv b Γ σ with
    | some (.ret d, _, σ1) => finish σ.length d σ1
    | _ => none) = _
  rw [h2]
  exact h3
theorem finish_row {r : Row} {σ : Store} {n : Nat} (h : σ.length = n) : finish n (rowD r) σ = some (rowD r, σ) := by
  subst h
  show some (rowD r, σ.take σ.length) = _
  rw [List.take_length]

noncomputable def uName (n : Int) : Str := Str.ofString "u" ++ Str.ofString (toString n)
theorem nat_of {n : Int} (h : 0 ≤ n ∧ n < 7) : ∃ a : Fin 7, n = ((a.val : Nat) : Int) := ⟨⟨n.toNat, by omega⟩, (Int.toNat_of_nonneg h.1).symm⟩
theorem u_fin1 : ∀ a : Fin 7, (Str.ofString "u").length + (Str.ofString (toString ((a.val : Nat) : Int))).length ≤ 1000 := by decide +kernel
theorem u_fin2 : ∀ a b : Fin 7, uName ((a.val : Nat) : Int) = uName ((b.val : Nat) : Int) → a = b := by decide +kernel
theorem u_fin3 : ∀ a : Fin 7, uName ((a.val : Nat) : Int) ≠ Str.ofString "text_io" := by decide +kernel
theorem u_short {n : Int} (h : 0 ≤ n ∧ n < 7) : ((Str.ofString "u").length + (Str.ofString (toString n)).length ≤ 1000) = True := by
  obtain ⟨a, rfl⟩ := nat_of h
  exact eq_true (u_fin1 a)
theorem u_inj {n m : Int} (h : 0 ≤ n ∧ n < 7) (h' : 0 ≤ m ∧ m < 7) (e : uName n = uName m) : n = m := by
  obtain ⟨a, rfl⟩ := nat_of h
  obtain ⟨b, rfl⟩ := nat_of h'
  rw [u_fin2 a b e]
theorem u_text {n : Int} (h : 0 ≤ n ∧ n < 7) : uName n ≠ Str.ofString "text_io" := by
  obtain ⟨a, rfl⟩ := nat_of h
  exact u_fin3 a

theorem T10_gulp : T10 (Str.ofString "_law_gulp") = some fn10 := by kernel_rfl
theorem T10_len : T10 (Str.ofString "len") = none := by kernel_rfl
theorem T10_str : T10 (Str.ofString "str") = none := by kernel_rfl
theorem bi_len {l : List D} (h : l.length ≤ 1000) : builtinD (Str.ofString "len") [.lst l] = some (.int l.length) := by
  simp only [builtinD, bi1, bi2, bi3, bi4, bi5, bi6, if_true, lenD, h, Option.map_some]
theorem bi_str {n : Int} (h : 0 ≤ n ∧ n < 10000) : builtinD (Str.ofString "str") [.int n] = some (.str (Str.ofString (toString n))) := by
  simp only [builtinD, bi1, bi2, bi3, bi4, bi5, bi6, ofS_inj, String.reduceEq, if_false, if_true, h, and_self]

theorem upd_upd {Γ : Ctx} {x : Str} {d e : D} : upd (upd Γ x d) x e = upd Γ x e := by
  funext y
  unfold upd
  split <;> rfl

theorem isLoc_item {r : Row} : D.isLoc (itemD r) = false := by
  obtain ⟨a, n, s, ns⟩ := r
  cases s <;> rfl

/-- a row's tail: the names, the item, the unit -/
theorem row_tail {Γ : Ctx} {σ : Store} {at' : Int} {name : Str} {s : Srt} {ns : List Str} (h1 : Γ (Str.ofString "at") = some (.int at')) (h2 : Γ (Str.ofString "name") = some (.str name)) (h3 : Γ (Str.ofString "sort") = some (.str (sortS s))) (h4 : Γ (Str.ofString "names") = some (.lst (ns.map .str))) (hn : ns.length ≤ 900) :
    ∃ Γr, exSs 54 T10 [] ((bodyOf (Str.ofString "_law_row")).drop 6) Γ σ = some (.ret (rowD ⟨at', name, s, ns.filter (fun x => !decide (x = name))⟩), Γr, σ) := by
  have hl : (ns.map D.str).length ≤ 1000 := by simp; omega
  have hf : (ns.filter (fun x => !decide (x = name))).length ≤ ns.length := List.length_filter_le _ _
  have hf2 : (ns.filter (fun x => !decide (x = name))).length ≤ 900 := Nat.le_trans hf hn
  generalize hns : ns.filter (fun x => !decide (x = name)) = ns' at hf2 ⊢
  apply Exists.intro
  conv => lhs; arg 4; whnf
  apply exSs_step
  · simp only [eS_assign, sE_name, kRet_some, sE_comp, kCo1_some, kCo2_some, kCo3_some, sA_name, tD_name, iD_comp, if_false, Bool.and_false, Bool.false_eq_true, List.contains_nil, deref_lst, h4, items_lst hl]
    rw [compL_map D.str (fun x => !decide (x = name)) D.str sameAt_lst ns (fun q hq => ?_)]
    · have hl5 : (ns'.map D.str).length ≤ 1000 := by simp only [List.length_map]; omega
      rw [hns]
      simp only [kCo4_some, kAe_some, if_true, if_false, Bool.false_eq_true, isLoc_lst, hl5]
      rfl
    · simp only [sE_name, kRet_some, compF_app, kF1_some, sT_cmp, kT1_some, kT2_some, kTB_some, sB_and, aT_name, upd, ofS_inj, ofS_beq, String.reduceEq, String.reduceBEq, if_true, if_false, capt, List.lookup_cons, beq_self_eq_true, cmp_ne_str, h2]
      by_cases h : q = name <;> simp only [h, sE_name, kRet_some, kF2_some, sB_nila, kBa_f, kBa_t, sG_nil, kG_some, upd, ofS_beq, String.reduceBEq, if_true, if_false, capt, List.lookup_cons, decide_true, decide_false, Bool.not_true, Bool.not_false, Bool.false_eq_true, beq_self_eq_true, isLoc_str]
  apply exSs_step
  · simp only [eE_int, eE_str, eEs_nil, eS_assign, sE_name, kRet_some, sE_tuple, kTup_some, sE_list, kLst_some, sEs_cons, kE1_some, kE2_some, sA_name, kAe_some, tD_name, iD_tuple, upd, ofS_inj, String.reduceEq, if_true, if_false, decide_true, Bool.and_true, Bool.and_false, Bool.not_false, Bool.false_eq_true, List.contains_nil, List.length_cons, List.length_nil, Nat.reduceAdd, Nat.reduceLeDiff, Nat.zero_le, isLoc_int, isLoc_str, isLoc_tup, isLoc_lst, plain_nil, plain_cons, h2]
    rfl
  apply exSs_step (Γ1 := upd (upd Γ (Str.ofString "names") (.lst (ns'.map .str))) (Str.ofString "item") (itemD ⟨at', name, s, ns'⟩)) (σ1 := σ)
  · simp only [eE_int, eE_str, eEs_nil, eS_assign, eSs_nil, sE_name, kRet_some, sE_tuple, kTup_some, sE_list, kLst_some, sEs_cons, kE1_some, kE2_some, sT_cmp, kT1_some, kT2_some, kTB_some, sA_name, kAe_some, sS_if, kI_some, sSs_cons, kSq_next, tD_name, iD_tuple, upd, ofS_inj, String.reduceEq, if_true, if_false, decide_true, Bool.and_true, Bool.and_false, Bool.not_false, Bool.false_eq_true, List.contains_nil, List.length_cons, List.length_nil, Nat.reduceAdd, Nat.reduceLeDiff, Nat.zero_le, isLoc_int, isLoc_str, isLoc_tup, isLoc_lst, cmp_eq_str, plain_nil, plain_cons, h2, h3]
    cases s <;> simp only [eSs_nil, kSq_next, ofS_inj, String.reduceEq, if_true, if_false, decide_true, decide_false, Bool.false_eq_true, sortS]
    all_goals first | rfl | (rw [upd_upd]; rfl)
  have hsum : ([D.str (Str.ofString "text_io")].length + (ns'.map D.str).length ≤ 1000) = True := by simp; omega
  have hl2 : ((Str.ofString "text_io" :: ns').map D.str).length ≤ 1000 := by simp; omega
  have hl3 : ((Str.ofString "text_io" :: ns').map nodeD).length ≤ 1000 := by simp; omega
  apply exSs_step
  · simp only [eE_str, eEs_nil, eS_assign, sE_name, kRet_some, sE_list, kLst_some, sE_bin, kBin1_some, kBin2_some, sE_comp, sEs_cons, kE1_some, kE2_some, sA_name, tD_name, iD_comp, upd, ofS_inj, String.reduceEq, if_true, if_false, decide_true, Bool.and_true, Bool.and_false, Bool.not_false, Bool.false_eq_true, List.contains_nil, List.length_cons, List.length_nil, Nat.reduceAdd, Nat.reduceLeDiff, isLoc_str, bin_add_lst, plain_nil, plain_cons, Bool.and_false, Bool.false_eq_true, if_false, plain_cons, plain_nil, isLoc_str, Bool.not_false, Bool.and_true, List.length_cons, List.length_nil, Nat.reduceAdd, Nat.reduceLeDiff, decide_true, if_true, upd, ofS_inj, String.reduceEq]
    simp only [List.length_cons, List.length_nil, Nat.reduceAdd] at hsum
    simp only [hsum, kRet_some, kCo1_some, kCo2_some, if_true, deref_lst, List.cons_append, List.nil_append]
    rw [show D.str (Str.ofString "text_io") :: ns'.map D.str = (Str.ofString "text_io" :: ns').map D.str from rfl]
    rw [items_lst hl2, kCo3_some]
    rw [compL_mapAll D.str nodeD sameAt_lst (Str.ofString "text_io" :: ns') (fun q hq => ?_)]
    · rw [kCo4_some, if_pos hl3]
      rfl
    · simp only [eE_str, eEs_nil, sE_name, kRet_some, sE_tuple, kTup_some, compF_app, kF1_some, kF2_some, sEs_cons, kE1_some, kE2_some, sB_nila, sG_nil, kG_some, aT_name, upd, ofS_inj, ofS_beq, String.reduceEq, String.reduceBEq, if_true, if_false, capt, List.lookup_cons, decide_true, Bool.and_true, Bool.not_false, Bool.false_eq_true, List.length_cons, List.length_nil, Nat.reduceAdd, Nat.reduceLeDiff, beq_self_eq_true, isLoc_str, isLoc_tup, plain_nil, plain_cons]
      rfl
  apply exSs_ret
  simp only [eE_int, eE_str, eEs_nil, sE_name, kRet_some, sE_tuple, kTup_some, sE_list, kLst_some, sE_bin, kBin1_some, kBin2_some, sEs_cons, kE1_some, kE2_some, sS_ret, kR_some, upd, ofS_inj, String.reduceEq, if_true, if_false, decide_true, Bool.and_true, Bool.not_false, List.length_cons, List.length_nil, Nat.reduceAdd, Nat.reduceLeDiff, List.map_cons, isLoc_int, isLoc_str, isLoc_tup, isLoc_lst, bin_add_int, plain_nil, plain_cons, h1, h2, h3, isLoc_item]
  rfl

noncomputable abbrev B10 : List Stmt := bodyOf (Str.ofString "_law_gulp")
theorem bowl_at {k : Int} {row : List Int} : subD (bowlD k row) (.str (Str.ofString "at")) = some (.int k) := by
  unfold bowlD
  rw [sD_str, if_pos bowl_kinds, bowl_get1]
theorem bowl_row {k : Int} {row : List Int} : subD (bowlD k row) (.str (Str.ofString "row")) = some (.lst (row.map .int)) := by
  unfold bowlD
  rw [sD_str, if_pos bowl_kinds, bowl_get2]
theorem gulp_spec (j : Nat) (k : Int) (row : List Int) (sides : Int) (σ : Store) (hj : σ[j]? = some (bowlD k row)) (hk : 0 ≤ k) (hs : 0 < sides) (hr : row.length ≤ 50) :
    ∃ v : Int, 0 ≤ v ∧ v < sides ∧ fn10 [.loc j, .int sides] σ = some (.int v, σ.set j (bowlD (k + 1) row)) := by
  have hlt : j < σ.length := (List.getElem?_eq_some_iff.mp hj).1
  have hd : deref (σ.set j (bowlD (k + 1) row)) (.loc j) = some (bowlD (k + 1) row) := deref_locD (List.getElem?_set_self hlt)
  have htake : finish σ.length = fun (d : D) (σ1 : Store) => finish σ.length d σ1 := rfl
  have hlen : (row.map D.int).length ≤ 1000 := by simp; omega
  obtain ⟨Γ0, hΓ0⟩ : ∃ Γ, Γ = upd (upd ctxRest (Str.ofString "bowl") (.loc j)) (Str.ofString "sides") (.int sides) := ⟨_, rfl⟩
  have a1 : Γ0 (Str.ofString "bowl") = some (.loc j) := by rw [hΓ0]; exact (if_neg (by decide)).trans (if_pos rfl)
  have a2 : Γ0 (Str.ofString "sides") = some (.int sides) := by rw [hΓ0]; exact if_pos rfl
  have a3 : Γ0 (Str.ofString "_law_rest") = some (.tup (restL.map .int)) := by rw [hΓ0]; exact (if_neg (by decide)).trans ((if_neg (by decide)).trans (if_pos rfl))
  have s0 : exSs 60 T9 [] (B10.drop 0) Γ0 σ = exSs 59 T9 [] (B10.drop 1) Γ0 (σ.set j (bowlD (k + 1) row)) := by
    conv => lhs; arg 4; whnf
    refine exSs_step ?_ rfl
    rw [eS_aug, sU_sub, eE_str, kW1_some, a1, kY_str, kW2_some, hj]
    unfold bowlD
    rw [kW3_some, bowl_kinds, bowl_get1, kW4_some, bowl_set]
    rfl
  have go : ∀ v : Int, exSs 59 T9 [] (B10.drop 1) Γ0 (σ.set j (bowlD (k + 1) row)) = some (.ret (.int v), Γ0, σ.set j (bowlD (k + 1) row)) → fn10 [.loc j, .int sides] σ = some (.int v, σ.set j (bowlD (k + 1) row)) := fun v h => by
    unfold fn10 mkFn
    conv in (defOf _ _) => whnf
    refine runFn_of (by rw [hΓ0]; rfl) (s0.trans h) ?_
    show some (_, (σ.set j (bowlD (k + 1) row)).take σ.length) = _
    rw [List.take_of_length_le (by simp)]
  by_cases hc : k + 1 ≤ (row.length : Int)
  · have hk1 : (k + 1 - 1).toNat < row.length := by omega
    have hidx : idx (row.map D.int) (k + 1 - 1) = some (.int row[(k + 1 - 1).toNat]) := by
      refine (if_pos (by omega)).trans ?_
      rw [List.getElem?_map, List.getElem?_eq_getElem hk1]; rfl
    refine ⟨row[(k + 1 - 1).toNat] % sides, Int.emod_nonneg _ (by omega), Int.emod_lt_of_pos _ hs, go _ ?_⟩
    conv => lhs; arg 4; whnf
    apply exSs_ret
    simp only [sS_if, sT_cmp, sE_subC, sE_name, a1, kRet_some, kSub1_some, eE_str, kSub2_some, hd, kSub3_some, bowl_at, kT1_some, sE_call, T9_len, sEs_cons, bowl_row, kE1_some, eEs_nil, kE2_some, kC1_bi, deref_lst, kC3_some, bi_len hlen, kT2_some, cmp_le_int, kTB_some, List.length_map, kI_some, decide_eq_true hc, if_true, sSs_cons, sS_ret, sE_bin, sE_subB, kBin1_some, eE_int, kBin2_some, bin_sub_int, sub_lst, hidx, a2, bin_mod_int hs, kR_some, kSq_ret]
  · have hm : ((k + 1 - 1) % 16).toNat < 16 := by omega
    obtain ⟨v, hv, hget⟩ := rest_get _ hm
    have hidx : idx (restL.map D.int) ((k + 1 - 1) % 16) = some (.int v) := (if_pos (by omega)).trans hget
    have hbl : builtinD (Str.ofString "len") [.tup (restL.map .int)] = some (.int 16) := rfl
    refine ⟨v % sides, Int.emod_nonneg _ (by omega), Int.emod_lt_of_pos _ hs, go _ ?_⟩
    have s1 : exSs 59 T9 [] (B10.drop 1) Γ0 (σ.set j (bowlD (k + 1) row)) = exSs 58 T9 [] (B10.drop 2) Γ0 (σ.set j (bowlD (k + 1) row)) := by
      conv => lhs; arg 4; whnf
      refine exSs_step ?_ rfl
      simp only [sS_if, sT_cmp, sE_subC, sE_name, a1, kRet_some, kSub1_some, eE_str, kSub2_some, hd, kSub3_some, bowl_at, kT1_some, sE_call, T9_len, sEs_cons, bowl_row, kE1_some, eEs_nil, kE2_some, kC1_bi, deref_lst, kC3_some, bi_len hlen, kT2_some, cmp_le_int, kTB_some, List.length_map, kI_some, decide_eq_false hc, Bool.false_eq_true, if_false, eSs_nil]
    rw [s1]
    conv => lhs; arg 4; whnf
    apply exSs_ret
    simp only [sS_ret, sE_bin, sE_subB, sE_name, a3, kRet_some, kSub1_some, sE_subC, a1, eE_str, kSub2_some, hd, kSub3_some, bowl_at, kBin1_some, eE_int, kBin2_some, bin_sub_int, sE_call, T9_len, sEs_cons, kE1_some, eEs_nil, kE2_some, kC1_bi, deref_tup, kC3_some, hbl, show binD .Mod (.int (k + 1 - 1)) (.int 16) = some (.int ((k + 1 - 1) % 16)) from bin_mod_int (by decide), sub_tup, hidx, a2, bin_mod_int hs, kR_some]
end Mine

-- SpE
namespace Mine
open PySem
set_option maxRecDepth 10000
set_option linter.unusedSimpArgs false
set_option linter.unusedVariables false

structure Next (R : List Row) (at' : Int) (r : Row) : Prop where
  at_ : r.at' = at'
  names : ∃ ns : List Str, ns.Sublist (aheadR R) ∧ r.names = ns.filter (fun x => !decide (x = r.name))
  kind : (r.sort ≠ .b ∧ r.name = uName at') ∨ (r.sort = .b ∧ ∃ s ∈ waitingR R, s.name = r.name)

theorem compL_gulp {jb : Nat} {row : List Int} {f : D → Store → Option (List D × Store)} {src : D} (hsrc : ∀ σ σ', sameAt src σ σ' = true)
    (hf : ∀ (n : Str) (k : Int) (σ : Store), σ[jb]? = some (bowlD k row) → 0 ≤ k → ∃ c : Bool, f (.str n) σ = some (if c = true then [.str n] else [], σ.set jb (bowlD (k + 1) row))) :
    ∀ (A : List Str) (k : Int) (σ : Store), σ[jb]? = some (bowlD k row) → 0 ≤ k → ∃ (A' : List Str) (k' : Int), A'.Sublist A ∧ 0 ≤ k' ∧ compL src f (A.map .str) σ = some (A'.map .str, σ.set jb (bowlD k' row))
  | [], k, σ, h, hk => by
    refine ⟨[], k, .slnil, hk, ?_⟩
    have : σ.set jb (bowlD k row) = σ := by
      obtain ⟨p, q⟩ := List.getElem?_eq_some_iff.mp h
      rw [← q, List.set_getElem_self]
    simp only [List.map_nil, compL, this]
  | n :: A, k, σ, h, hk => by
    obtain ⟨c, hc⟩ := hf n k σ h hk
    have hlt := (List.getElem?_eq_some_iff.mp h).1
    obtain ⟨A', k', h1, h2, h3⟩ := compL_gulp hsrc hf A (k + 1) (σ.set jb (bowlD (k + 1) row)) (List.getElem?_set_self hlt) (by omega)
    rw [List.set_set] at h3
    cases c with
    | true =>
      refine ⟨n :: A', k', h1.cons_cons n, h2, ?_⟩
      simp only [List.map_cons, compL, hc, hsrc, if_true, h3, List.cons_append, List.nil_append]
    | false =>
      refine ⟨A', k', h1.cons n, h2, ?_⟩
      simp only [List.map_cons, compL, hc, hsrc, if_true, h3, Bool.false_eq_true, if_false, List.nil_append]

theorem compL_gulp' {jb : Nat} {row : List Int} {f : D → Store → Option (List D × Store)} {src : D} {A : List Str} {k : Int} {σ : Store} {c : Option (List D × Store)} (hc : compL src f (A.map .str) σ = c) (hsrc : ∀ σ σ', sameAt src σ σ' = true) (h : σ[jb]? = some (bowlD k row)) (hk : 0 ≤ k)
    (hf : ∀ (n : Str) (k : Int) (σ : Store), σ[jb]? = some (bowlD k row) → 0 ≤ k → ∃ c : Bool, f (.str n) σ = some (if c = true then [.str n] else [], σ.set jb (bowlD (k + 1) row))) :
    ∃ (A' : List Str) (k' : Int), A'.Sublist A ∧ 0 ≤ k' ∧ c = some (A'.map .str, σ.set jb (bowlD k' row)) := by
  obtain ⟨A', k', h1, h2, h3⟩ := compL_gulp hsrc hf A k σ h hk
  exact ⟨A', k', h1, h2, hc.symm.trans h3⟩

theorem idx_map {R : List Row} {v : Int} (h0 : 0 ≤ v) (h1 : v < R.length) (h2 : R.length ≤ 1000) : ∃ r ∈ R, idx (R.map rowD) v = some (rowD r) := by
  have hl : v.toNat < R.length := by omega
  refine ⟨R[v.toNat], List.getElem_mem hl, ?_⟩
  have : (0 ≤ v ∧ v ≤ 1000) = True := by simp; omega
  simp only [idx, this, if_true, List.getElem?_map, List.getElem?_eq_getElem hl, Option.map_some]

noncomputable abbrev B11 : List Stmt := bodyOf (Str.ofString "_law_row")
section
variable {Γ : Ctx} {σ σ1 : Store} {jb jr : Nat} {R : List Row} {way : Int}

theorem row0 (h1 : Γ (Str.ofString "bowl") = some (.loc jb)) (hg : fn10 [.loc jb, .int 4] σ = some (.int way, σ1)) : exSs 60 T10 [] (B11.drop 0) Γ σ = exSs 59 T10 [] (B11.drop 1) (upd Γ (Str.ofString "way") (.int way)) σ1 := by
  conv => lhs; arg 4; whnf
  refine exSs_step ?_ rfl
  simp only [eE_int, eEs_nil, eS_assign, sE_name, kRet_some, sE_call, kC1_fn, sEs_cons, kE1_some, kE2_some, sA_name, kAe_some, tD_name, iD_call, if_false, Bool.and_false, Bool.false_eq_true, List.contains_nil, isLoc_int, h1, T10_gulp, hg]

theorem row1 (hΓ : Γ (Str.ofString "rows") = some (.loc jr)) (hj : σ[jr]? = some (.lst (R.map rowD))) (hR : R.length ≤ 1000) : exSs 59 T10 [] (B11.drop 1) Γ σ = exSs 58 T10 [] (B11.drop 2) (upd Γ (Str.ofString "waiting") (.lst ((waitingR R).map rowD))) σ := by
  have hR' : (R.map rowD).length ≤ 1000 := by simpa using hR
  have hw : ((waitingR R).map rowD).length ≤ 1000 := by
    rw [List.length_map]; exact Nat.le_trans (List.length_filter_le _ _) hR
  conv => lhs; arg 4; whnf
  refine exSs_step ?_ rfl
  simp only [eS_assign, sE_name, kRet_some, sE_comp, kCo1_some, kCo2_some, kCo3_some, sA_name, tD_name, iD_comp, if_false, Bool.and_false, Bool.false_eq_true, List.contains_nil, hΓ, deref_locL hj, items_loc hR']
  rw [compL_map rowD (fun r => !decide (r.sort = .b) && (R.filter (isBodyOf r.name)).isEmpty) rowD (sameAt_self hj) R (fun r hr => ?_)]
  · simp only [show (R.filter fun r => !decide (r.sort = .b) && (R.filter (isBodyOf r.name)).isEmpty) = waitingR R from rfl, hw, kCo4_some, kAe_some, if_true, if_false, Bool.false_eq_true, isLoc_lst]
  · by_cases hs : r.sort = .b
    · simp only [hs, eE_int, eE_str, eEs_nil, eT_bool, sE_name, kRet_some, sE_tuple, kTup_some, compF_app, kF1_some, kF2_some, sEs_cons, kE1_some, kE2_some, sT_cmp, kT1_some, kT2_some, kTB_some, sB_and, kBa_f, sG_nil, kG_some, aT_name, kSub1_some, kSub2_some, kSub3_some, sE_subC, upd, ofS_beq, String.reduceBEq, if_true, if_false, capt, List.lookup_cons, decide_true, Bool.and_true, Bool.false_and, Bool.not_true, Bool.not_false, Bool.false_eq_true, List.length_cons, List.length_nil, Nat.reduceAdd, Nat.reduceLeDiff, beq_self_eq_true, deref_row, isLoc_str, isLoc_row, cmp_in_two, sub_row1, sort_two, plain_nil, plain_cons]
    · simp only [hs, eE_int, eE_str, eEs_nil, eT_bool, sE_name, kRet_some, sE_tuple, kTup_some, sE_comp, kCo1_some, kCo2_some, kCo3_some, compF_app, kF1_some, sEs_cons, kE1_some, kE2_some, sT_cmp, kT1_some, kT2_some, kTB_some, sB_and, kBa_t, aT_name, kSub1_some, kSub2_some, kSub3_some, sE_subC, upd, ofS_inj, ofS_beq, String.reduceEq, String.reduceBEq, if_true, if_false, capt, List.lookup_cons, decide_true, decide_false, Bool.and_true, Bool.true_and, Bool.not_false, List.length_cons, List.length_nil, Nat.reduceAdd, Nat.reduceLeDiff, beq_self_eq_true, deref_row, isLoc_str, cmp_in_two, sub_row1, sort_two, plain_nil, plain_cons, hΓ, deref_locL hj, items_loc hR']
      rw [compL_map rowD (isBodyOf r.name) rowD (sameAt_self hj) R (fun q hq => ?_)]
      · have hl : ((R.filter (isBodyOf r.name)).map rowD).length ≤ 1000 := by rw [List.length_map]; exact Nat.le_trans (List.length_filter_le _ _) hR
        simp only [hl, eEs_nil, sE_list, kLst_some, kCo4_some, kT1_some, kT2_some, kTB_some, if_true, decide_true, Bool.and_true, List.length_nil, Nat.zero_le, cmp_eq_nil, plain_nil, List.isEmpty_map]
        by_cases he : (R.filter (isBodyOf r.name)).isEmpty = true <;> simp only [he, sE_name, kRet_some, kF2_some, sB_nila, kBa_f, kBa_t, sG_nil, kG_some, upd, ofS_beq, String.reduceBEq, if_true, if_false, capt, List.lookup_cons, Bool.false_eq_true, beq_self_eq_true, isLoc_row]
      · simp only [eE_int, eE_str, eEs_nil, eO_none, sE_name, kRet_some, sE_tuple, kTup_some, sE_slice, kSl1_some, kSl2_some, kSl3_some, kSl4_some, compF_app, kF1_some, sEs_cons, kE1_some, kE2_some, sO_some, kO_some, sT_cmp, kT1_some, kT2_some, kTB_some, sB_and, aT_name, kSub1_some, kSub2_some, kSub3_some, sE_subC, upd, ofS_inj, ofS_beq, String.reduceEq, String.reduceBEq, if_true, if_false, reduceCtorEq, capt, List.lookup_cons, List.lookup_nil, decide_true, Bool.and_true, Bool.not_false, List.length_cons, List.length_nil, Nat.reduceAdd, Nat.reduceLeDiff, beq_self_eq_true, deref_row, isLoc_str, cmp_eq_pair, sub_row0, slice_row2, sort_body, plain_nil, plain_cons, isBodyOf]
        by_cases h1 : q.name = r.name <;> by_cases h2 : q.sort = .b <;> simp only [h1, h2, sE_name, kRet_some, kF2_some, sB_nila, kBa_f, kBa_t, sG_nil, kG_some, upd, ofS_inj, ofS_beq, String.reduceEq, String.reduceBEq, if_true, if_false, reduceCtorEq, capt, List.lookup_cons, List.lookup_nil, decide_true, decide_false, Bool.and_true, Bool.and_false, Bool.false_eq_true, beq_self_eq_true, isLoc_row]

theorem row2 (hΓ : Γ (Str.ofString "rows") = some (.loc jr)) (hj : σ[jr]? = some (.lst (R.map rowD))) (hR : R.length ≤ 1000) : exSs 58 T10 [] (B11.drop 2) Γ σ = exSs 57 T10 [] (B11.drop 3) (upd Γ (Str.ofString "ahead") (.lst ((aheadR R).map .str))) σ := by
  have hR' : (R.map rowD).length ≤ 1000 := by simpa using hR
  have ha : ((aheadR R).map D.str).length ≤ 1000 := by unfold aheadR; rw [List.length_map, List.length_map]; exact Nat.le_trans (List.length_filter_le _ _) hR
  conv => lhs; arg 4; whnf
  refine exSs_step ?_ rfl
  simp only [eS_assign, sE_name, kRet_some, sE_comp, kCo1_some, kCo2_some, kCo3_some, sA_name, tD_name, iD_comp, if_false, Bool.and_false, Bool.false_eq_true, List.contains_nil, hΓ, deref_locL hj, items_loc hR']
  rw [compL_map rowD (fun r => !decide (r.sort = .b)) (fun r => .str r.name) (sameAt_self hj) R (fun r hr => ?_)]
  · rw [show (R.filter fun r => !decide (r.sort = .b)).map (fun r => D.str r.name) = (aheadR R).map D.str from by unfold aheadR; rw [List.map_map]; rfl]
    simp only [ha, kCo4_some, kAe_some, if_true, if_false, Bool.false_eq_true, isLoc_lst]
  · simp only [eE_int, eE_str, sE_name, kRet_some, compF_app, kF1_some, sT_cmp, kT1_some, kT2_some, kTB_some, sB_and, aT_name, kSub1_some, kSub2_some, kSub3_some, sE_subC, upd, ofS_beq, String.reduceBEq, if_true, capt, List.lookup_cons, beq_self_eq_true, deref_row, cmp_ne_str, sub_row1, sort_body]
    by_cases h1 : r.sort = .b <;> simp only [h1, eE_int, sE_name, kRet_some, kF2_some, sB_nila, kBa_f, kBa_t, sG_nil, kG_some, kSub1_some, kSub2_some, kSub3_some, sE_subC, upd, ofS_beq, String.reduceBEq, if_true, if_false, capt, List.lookup_cons, decide_true, decide_false, Bool.not_true, Bool.not_false, Bool.false_eq_true, beq_self_eq_true, deref_row, isLoc_str, sub_row0]

theorem row3 {A : List Str} {k : Int} {row : List Int} (h1 : Γ (Str.ofString "bowl") = some (.loc jb)) (hΓ : Γ (Str.ofString "ahead") = some (.lst (A.map .str))) (hA : A.length ≤ 900) (hjb : σ[jb]? = some (bowlD k row)) (hk : 0 ≤ k) (hrow : row.length ≤ 50) :
    ∃ (A' : List Str) (k' : Int), A'.Sublist A ∧ 0 ≤ k' ∧ exSs 57 T10 [] (B11.drop 3) Γ σ = exSs 56 T10 [] (B11.drop 4) (upd Γ (Str.ofString "names") (.lst (A'.map .str))) (σ.set jb (bowlD k' row)) := by
  have hl : (A.map D.str).length ≤ 1000 := by simp; omega
  have key : ∃ (A' : List Str) (k' : Int), A'.Sublist A ∧ 0 ≤ k' ∧ exS 56 T10 [] (B11.drop 3).head! Γ σ = some (.next, upd Γ (Str.ofString "names") (.lst (A'.map .str)), σ.set jb (bowlD k' row)) := by
    conv in (List.head! _) => whnf
    simp only [eS_assign, sE_name, kRet_some, sE_comp, kCo1_some, kCo2_some, kCo3_some, sA_name, tD_name, iD_comp, if_false, Bool.and_false, Bool.false_eq_true, List.contains_nil, deref_lst, hΓ, items_lst hl]
    generalize hc : compL (D.lst (A.map D.str)) _ (A.map D.str) σ = c
    obtain ⟨A', k', g1, g2, rfl⟩ := compL_gulp' hc (fun _ _ => rfl) hjb hk (fun n k σ hb hk => by
      obtain ⟨v, _, _, hv⟩ := gulp_spec jb k row 3 σ hb hk (by decide) hrow
      refine ⟨decide (v = 0), ?_⟩
      simp only [eE_int, eEs_nil, sE_name, kRet_some, sE_call, kC1_fn, compF_app, kF1_some, sEs_cons, kE1_some, kE2_some, sT_cmp, kT1_some, kT2_some, kTB_some, sB_and, aT_name, upd, ofS_inj, ofS_beq, String.reduceEq, String.reduceBEq, if_true, if_false, capt, List.lookup_cons, beq_self_eq_true, cmp_eq_int, h1, T10_gulp, hv]
      by_cases hv0 : v = 0 <;> simp only [hv0, sE_name, kRet_some, kF2_some, sB_nila, kBa_f, kBa_t, sG_nil, kG_some, upd, ofS_beq, String.reduceBEq, if_true, if_false, capt, List.lookup_cons, decide_true, decide_false, Bool.false_eq_true, beq_self_eq_true, isLoc_str])
    have hl2 : (A'.map D.str).length ≤ 1000 := by rw [List.length_map]; have := g1.length_le; omega
    refine ⟨A', k', g1, g2, ?_⟩
    simp only [kCo4_some, kAe_some, if_true, if_false, Bool.false_eq_true, isLoc_lst, hl2]
  obtain ⟨A', k', g1, g2, g3⟩ := key
  refine ⟨A', k', g1, g2, ?_⟩
  conv => lhs; arg 4; whnf
  exact exSs_step g3 rfl
end
end Mine

-- SpF
namespace Mine
open PySem
set_option maxRecDepth 10000
set_option linter.unusedSimpArgs false
set_option linter.unusedVariables false

section
variable {Γ : Ctx} {σ σ1 : Store} {jb jr : Nat} {R : List Row} {way : Int}

noncomputable def twoSort (way : Int) : Srt := if way % 2 = 0 then .g else .p
theorem idx_two (h0 : 0 ≤ way) : idx [D.str (Str.ofString "generic"), D.str (Str.ofString "package")] (way % 2) = some (.str (sortS (twoSort way))) := by
  have : way % 2 = 0 ∨ way % 2 = 1 := by omega
  rcases this with h | h <;> simp only [h, twoSort] <;> rfl

theorem row4 {at' : Int} (h1 : Γ (Str.ofString "at") = some (.int at')) (h2 : Γ (Str.ofString "way") = some (.int way)) (hat : 0 ≤ at' ∧ at' < 7) (hw : 0 ≤ way) :
    exSs 56 T10 [] (B11.drop 4) Γ σ = exSs 55 T10 [] (B11.drop 5) (upd (upd Γ (Str.ofString "name") (.str (uName at'))) (Str.ofString "sort") (.str (sortS (twoSort way)))) σ := by
  have hat' : 0 ≤ at' ∧ at' < 10000 := by omega
  conv => lhs; arg 4; whnf
  refine exSs_step ?_ rfl
  simp only [eE_int, eE_str, eEs_nil, eFs_nil, eS_assign, sE_name, kRet_some, sE_tuple, kTup_some, sE_bin, kBin1_some, kBin2_some, sE_call, kC1_bi, kC3_some, sEs_cons, kE1_some, kE2_some, sFs_cons, kFs3_some, sA_tt, kAt_some, kAt2_some, aN_nil, aN_cons, tD_name, iD_bin, iD_sub, kSub1_some, kSub2_some, kSub3_some, sE_subB, if_true, if_false, decide_true, Bool.and_true, Bool.and_false, Bool.not_false, Bool.false_eq_true, List.contains_nil, List.length_cons, List.length_nil, Nat.reduceAdd, Nat.reduceLeDiff, deref_int, deref_tup, isLoc_str, bin_add_str, sub_tup, plain_nil, plain_cons, h1, h2, T10_str, bi_str hat', u_short hat, bin_mod_int (show (0 : Int) < 2 from by decide), idx_two hw]
  rfl

theorem row5_no (h1 : Γ (Str.ofString "way") = some (.int way)) (h2 : Γ (Str.ofString "waiting") = some (.lst (R.map rowD))) (h : ¬ (1 < way ∧ R ≠ [])) : exSs 55 T10 [] (B11.drop 5) Γ σ = exSs 54 T10 [] (B11.drop 6) Γ σ := by
  conv => lhs; arg 4; whnf
  refine exSs_step ?_ rfl
  by_cases hw : 1 < way
  · have hR : R = [] := by
      apply Classical.byContradiction
      intro hn
      exact h ⟨hw, hn⟩
    subst hR
    simp only [eE_int, eEs_nil, eT_bool, eS_assign, eSs_nil, sE_name, kRet_some, sE_list, kLst_some, sE_call, sEs_cons, sT_cmp, kT1_some, kT2_some, kTB_some, sB_and, kBa_f, kBa_t, sFs_cons, sA_tt, sS_if, kI_some, sSs_cons, tD_name, iD_sub, kSub1_some, sE_subC, sE_subK, if_true, if_false, decide_true, Bool.and_true, Bool.and_false, Bool.not_true, Bool.false_eq_true, List.contains_nil, List.length_nil, Nat.zero_le, List.map_nil, cmp_gt_int, cmp_ne_nil, plain_nil, h1, h2, hw, List.isEmpty_nil]
  · simp only [eE_int, eT_bool, eS_assign, eSs_nil, sE_name, kRet_some, sE_call, sEs_cons, sT_cmp, kT1_some, kT2_some, kTB_some, sB_and, kBa_f, sFs_cons, sA_tt, sS_if, kI_some, sSs_cons, tD_name, iD_sub, kSub1_some, sE_subC, sE_subK, if_false, decide_false, Bool.and_false, Bool.false_eq_true, List.contains_nil, cmp_gt_int, h1, h2, hw]

theorem row5_yes {k : Int} {row : List Int} (h0 : Γ (Str.ofString "bowl") = some (.loc jb)) (h1 : Γ (Str.ofString "way") = some (.int way)) (h2 : Γ (Str.ofString "waiting") = some (.lst (R.map rowD))) (hw : 1 < way) (hne : R ≠ []) (hR : R.length ≤ 900)
    (hjb : σ[jb]? = some (bowlD k row)) (hk : 0 ≤ k) (hrow : row.length ≤ 50) :
    ∃ s ∈ R, exSs 55 T10 [] (B11.drop 5) Γ σ = exSs 54 T10 [] (B11.drop 6) (upd (upd Γ (Str.ofString "name") (.str s.name)) (Str.ofString "sort") (.str (sortS .b))) (σ.set jb (bowlD (k + 1) row)) := by
  have hpos : (0 : Int) < (R.length : Int) := by
    have := List.length_pos_iff.mpr hne
    omega
  have hl : (R.map rowD).length ≤ 1000 := by simp; omega
  obtain ⟨v, v0, v1, hv⟩ := gulp_spec jb k row R.length σ hjb hk hpos hrow
  obtain ⟨s, hs, hidx⟩ := idx_map v0 v1 (by omega)
  refine ⟨s, hs, ?_⟩
  have he : R.isEmpty = false := by cases R with | nil => exact absurd rfl hne | cons => rfl
  conv => lhs; arg 4; whnf
  refine exSs_step ?_ rfl
  simp only [eE_int, eE_str, eEs_nil, eT_bool, eFs_nil, eS_assign, eSs_nil, sE_name, kRet_some, sE_list, kLst_some, sE_call, kC1_fn, kC1_bi, kC3_some, sEs_cons, kE1_some, kE2_some, sT_cmp, kT1_some, kT2_some, kTB_some, sB_nila, sB_and, kBa_t, sFs_cons, kFs3_some, sA_tt, kAt_some, kAt2_some, sS_if, kI_some, sSs_cons, kSq_next, aN_nil, aN_cons, tD_name, iD_sub, iD_const, kSub1_some, kSub2_some, kSub3_some, sE_subC, sE_subK, if_true, if_false, decide_true, Bool.and_true, Bool.and_false, Bool.not_false, Bool.false_eq_true, List.contains_nil, List.length_nil, Nat.zero_le, deref_lst, deref_row, isLoc_str, cmp_gt_int, cmp_ne_nil, sub_row0, sub_lst, plain_nil, h0, h1, h2, hw, List.isEmpty_map, he, T10_gulp, T10_len, bi_len hl, List.length_map, hv, hidx]
  rfl
end

theorem finish_set {r : Row} {σ : Store} {jb : Nat} {x : D} : finish σ.length (rowD r) (σ.set jb x) = some (rowD r, σ.set jb x) := finish_row (by simp)

theorem row_spec {jb jr : Nat} {k : Int} {row : List Int} {at' : Int} {R : List Row} {σ : Store} (hjb : σ[jb]? = some (bowlD k row)) (hjr : σ[jr]? = some (.lst (R.map rowD))) (hne : jb ≠ jr) (hk : 0 ≤ k) (hrow : row.length ≤ 50) (hat : 0 ≤ at' ∧ at' < 7) (hR : R.length ≤ 7) :
    ∃ r k', 0 ≤ k' ∧ fn11 [.loc jb, .int at', .loc jr] σ = some (rowD r, σ.set jb (bowlD k' row)) ∧ Next R at' r := by
  have hlt : jb < σ.length := (List.getElem?_eq_some_iff.mp hjb).1
  have hb : ∀ x, (σ.set jb (bowlD x row))[jb]? = some (bowlD x row) := fun x => List.getElem?_set_self hlt
  have hr : ∀ x, (σ.set jb (bowlD x row))[jr]? = some (.lst (R.map rowD)) := fun x => by rw [List.getElem?_set_ne hne]; exact hjr
  have hwl : (waitingR R).length ≤ 7 := Nat.le_trans (List.length_filter_le _ _) hR
  have hal : (aheadR R).length ≤ 7 := by unfold aheadR; rw [List.length_map]; exact Nat.le_trans (List.length_filter_le _ _) hR
  obtain ⟨way, w0, w4, hg1⟩ := gulp_spec jb k row 4 σ hjb hk (by decide) hrow
  -- the frame
  obtain ⟨Γ0, hΓ0⟩ : ∃ Γ, Γ = upd (upd (upd noCtx (Str.ofString "bowl") (.loc jb)) (Str.ofString "at") (.int at')) (Str.ofString "rows") (.loc jr) := ⟨_, rfl⟩
  have hrun : ∀ (r : Row) (Γr : Ctx) (k' : Int), exSs 60 T10 [] (B11.drop 0) Γ0 σ = some (.ret (rowD r), Γr, σ.set jb (bowlD k' row)) → fn11 [.loc jb, .int at', .loc jr] σ = some (rowD r, σ.set jb (bowlD k' row)) := fun r Γr k' h => by
    unfold fn11 mkFn
    conv in (defOf _ _) => whnf
    refine runFn_of ?_ h finish_set
    rw [hΓ0]
    rfl
  have s0 := row0 (Γ := Γ0) (by rw [hΓ0]; simp only [upd, ofS_inj, String.reduceEq, if_true, if_false]) hg1
  have s1 := row1 (Γ := upd Γ0 (Str.ofString "way") (.int way)) (jr := jr) (R := R) (by rw [hΓ0]; simp only [upd, ofS_inj, String.reduceEq, if_true, if_false]) (hr (k + 1)) (by omega)
  obtain ⟨Γ2, hΓ2⟩ : ∃ Γ, Γ = upd (upd (upd Γ0 (Str.ofString "way") (.int way)) (Str.ofString "waiting") (.lst ((waitingR R).map rowD))) (Str.ofString "ahead") (.lst ((aheadR R).map .str)) := ⟨_, rfl⟩
  have s2 := row2 (Γ := upd (upd Γ0 (Str.ofString "way") (.int way)) (Str.ofString "waiting") (.lst ((waitingR R).map rowD))) (jr := jr) (R := R) (by rw [hΓ0]; simp only [upd, ofS_inj, String.reduceEq, if_true, if_false]) (hr (k + 1)) (by omega)
  rw [← hΓ2] at s2
  obtain ⟨A', k', g1, g2, s3⟩ := row3 (Γ := Γ2) (A := aheadR R) (by rw [hΓ2, hΓ0]; simp only [upd, ofS_inj, String.reduceEq, if_true, if_false]) (by rw [hΓ2]; simp only [upd, ofS_inj, String.reduceEq, if_true, if_false]) (by omega) (hb (k + 1)) (by omega) hrow
  rw [List.set_set] at s3
  have hA' : A'.length ≤ 7 := Nat.le_trans g1.length_le hal
  have s4 := row4 (Γ := upd Γ2 (Str.ofString "names") (.lst (A'.map .str))) (σ := σ.set jb (bowlD k' row)) (at' := at') (way := way) (by rw [hΓ2, hΓ0]; simp only [upd, ofS_inj, String.reduceEq, if_true, if_false]) (by rw [hΓ2]; simp only [upd, ofS_inj, String.reduceEq, if_true, if_false]) hat w0
  obtain ⟨Γ4, hΓ4⟩ : ∃ Γ, Γ = upd (upd (upd Γ2 (Str.ofString "names") (.lst (A'.map .str))) (Str.ofString "name") (.str (uName at'))) (Str.ofString "sort") (.str (sortS (twoSort way))) := ⟨_, rfl⟩
  rw [← hΓ4] at s4
  have pre : exSs 60 T10 [] (B11.drop 0) Γ0 σ = exSs 55 T10 [] (B11.drop 5) Γ4 (σ.set jb (bowlD k' row)) := by rw [s0, s1, s2, s3, s4]
  have e1 : Γ4 (Str.ofString "way") = some (.int way) := by rw [hΓ4, hΓ2]; simp only [upd, ofS_inj, String.reduceEq, if_true, if_false]
  have e2 : Γ4 (Str.ofString "waiting") = some (.lst ((waitingR R).map rowD)) := by rw [hΓ4, hΓ2]; simp only [upd, ofS_inj, String.reduceEq, if_true, if_false]
  have e3 : Γ4 (Str.ofString "at") = some (.int at') := by rw [hΓ4, hΓ2, hΓ0]; simp only [upd, ofS_inj, String.reduceEq, if_true, if_false]
  have e4 : Γ4 (Str.ofString "names") = some (.lst (A'.map .str)) := by rw [hΓ4]; simp only [upd, ofS_inj, String.reduceEq, if_true, if_false]
  have e5 : Γ4 (Str.ofString "bowl") = some (.loc jb) := by rw [hΓ4, hΓ2, hΓ0]; simp only [upd, ofS_inj, String.reduceEq, if_true, if_false]
  by_cases hc : 1 < way ∧ waitingR R ≠ []
  · obtain ⟨s, hs, s5⟩ := row5_yes (Γ := Γ4) (σ := σ.set jb (bowlD k' row)) e5 e1 e2 hc.1 hc.2 (by omega) (hb k') g2 hrow
    rw [List.set_set] at s5
    obtain ⟨Γr, s6⟩ := row_tail (Γ := upd (upd Γ4 (Str.ofString "name") (.str s.name)) (Str.ofString "sort") (.str (sortS .b))) (σ := σ.set jb (bowlD (k' + 1) row)) (at' := at') (name := s.name) (s := .b) (ns := A') (by simp only [upd, ofS_inj, String.reduceEq, if_false, e3]) (by simp only [upd, ofS_inj, String.reduceEq, if_true, if_false]) (by simp only [upd, ofS_inj, String.reduceEq, if_true, if_false]) (by simp only [upd, ofS_inj, String.reduceEq, if_false, e4]) (by omega)
    refine ⟨⟨at', s.name, .b, A'.filter (fun x => !decide (x = s.name))⟩, k' + 1, by omega, hrun _ Γr (k' + 1) ?_, ⟨rfl, ⟨A', g1, rfl⟩, .inr ⟨rfl, s, hs, rfl⟩⟩⟩
    rw [pre, s5]; exact s6
  · have s5 := row5_no (Γ := Γ4) (σ := σ.set jb (bowlD k' row)) e1 e2 hc
    obtain ⟨Γr, s6⟩ := row_tail (Γ := Γ4) (σ := σ.set jb (bowlD k' row)) (at' := at') (name := uName at') (s := twoSort way) (ns := A') e3 (by rw [hΓ4]; simp only [upd, ofS_inj, String.reduceEq, if_true, if_false]) (by rw [hΓ4]; simp only [upd, ofS_inj, String.reduceEq, if_true, if_false]) e4 (by omega)
    refine ⟨⟨at', uName at', twoSort way, A'.filter (fun x => !decide (x = uName at'))⟩, k', g2, hrun _ Γr k' ?_, ⟨rfl, ⟨A', g1, rfl⟩, .inl ⟨?_, rfl⟩⟩⟩
    · rw [pre, s5]; exact s6
    · unfold twoSort
      show (if way % 2 = 0 then Srt.g else Srt.p) ≠ .b
      split <;> decide
end Mine

-- SpG
namespace Mine
open PySem
set_option maxRecDepth 10000
set_option linter.unusedSimpArgs false
set_option linter.unusedVariables false

inductive Valid : List Row → Prop
  | nil : Valid []
  | snoc {R : List Row} {r : Row} : Valid R → Next R R.length r → Valid (R ++ [r])

theorem meth_append {k : Nat} {l : List D} {x : D} {σ : Store} (h : σ[k]? = some (.lst l)) (hl : l.length ≤ 1000) (hx : x.isLoc = false) : evMeth (Str.ofString "append") (.loc k) [x] σ = some (.nil, σ.set k (.lst (l ++ [x]))) := by
  simp only [evMeth, plainAll, List.all_cons, List.all_nil, hx, Bool.not_false, Bool.and_true, if_true, h, methS, ofS_inj, String.reduceEq, if_false, hl, decide_true]
theorem head_append {l : List D} : methHead (Str.ofString "append") (.lst l) = true := by
  simp only [methHead, decide_true, Bool.or_true, Bool.true_or]
theorem T14_at {x : String} (h1 : x ≠ "_law_ordered") (h2 : x ≠ "_law_needed") (h3 : x ≠ "_law_moved") : T14 (Str.ofString x) = T11 (Str.ofString x) := by
  simp only [T14, T13, T12, addFn, ofS_inj, h1, h2, h3, if_false]
theorem T14_row : T14 (Str.ofString "_law_row") = some fn11 := by kernel_rfl
theorem T14_gulp : T14 (Str.ofString "_law_gulp") = some fn10 := by kernel_rfl
theorem T14_range : T14 (Str.ofString "range") = none := by kernel_rfl
theorem bi_range {n : Int} : builtinD (Str.ofString "range") [.int n] = some (.rng n) := by
  simp only [builtinD, bi1, bi2, bi3, bi4, bi5, bi6, ofS_inj, String.reduceEq, if_false, if_true]

noncomputable abbrev B15 : List Stmt := bodyOf (Str.ofString "law")
noncomputable def lawSt (k : Int) (row : List Int) (R : List Row) : Store := [bowlD k row, .lst (R.map rowD)]

theorem law0 {Γ : Ctx} {ns : List Int} (h1 : Γ (Str.ofString "script") = some (.lst (ns.map .int))) (h : ns.length ≤ 900) :
    exSs 60 T14 [Str.ofString "bowl", Str.ofString "rows"] (B15.drop 0) Γ [] = exSs 59 T14 [Str.ofString "bowl", Str.ofString "rows"] (B15.drop 1) (upd (upd Γ (Str.ofString "bowl") (.loc 0)) (Str.ofString "rows") (.loc 1)) (lawSt 0 (ns.take 50) []) := by
  have hl : ((ns.map D.int).length ≤ 1000) := by simp; omega
  have hs : sliceD (.lst (ns.map .int)) none (some 50) = some (.lst ((ns.take 50).map .int)) := by
    simp only [sliceD, hl, if_true, sliceL, loI, hiI, clampI, List.drop_zero, Nat.sub_zero, List.map_take]
    congr 2
    simp only [List.length_map]
    show (ns.map D.int).take (min 50 ns.length) = _
    rcases Nat.le_total 50 ns.length with h | h
    · rw [Nat.min_eq_left h]
    · rw [Nat.min_eq_right h, List.take_of_length_le (by simp), List.take_of_length_le (by simpa using h)]
  conv => lhs; arg 4; whnf
  refine exSs_step ?_ rfl
  simp only [Bool.and_true, List.contains_cons, ofS_beq, String.reduceBEq, List.contains_nil, Bool.or_false, Bool.or_true, if_true, eE_int, eE_str, eEs_nil, eO_none, eP_nil, eFs_nil, eS_assign, sE_name, kRet_some, sE_list, kLst_some, sE_slice, kSl1_some, kSl2_some, kSl3_some, kSl4_some, kE2_some, sO_some, kO_some, sF_list, sF_dict, kD1_some, kD2_some, sP_cons, kP1_some, kP2_some, kP3_some, sFs_cons, kFs1_some, kFs2_some, kFs3_some, sA_tt, kAt_some, kAt2_some, aN_nil, aN_cons, tD_name, iD_list, iD_dict, ofS_inj, ofS_beq, String.reduceEq, String.reduceBEq, if_true, if_false, Option.map_none, decide_true, decide_false, Bool.and_true, Bool.or_true, Bool.or_false, Bool.false_eq_true, List.contains_cons, List.contains_nil, List.length_cons, List.length_nil, Nat.reduceAdd, Nat.reduceLeDiff, Nat.zero_le, List.map_cons, List.map_nil, beq_self_eq_true, deref_lst, isLoc_int, isLoc_lst, plain_nil, h1, hs, dictOfPairs, assocSet, assocGet, List.find?_nil, Option.isSome_none, List.nil_append, List.find?_cons, Key.s.injEq, List.cons_append]
  rfl

theorem range_items {n : Int} (h : 0 ≤ n ∧ n ≤ 1000) : itemsSrc (.rng n) (.rng n) = some ((List.range' 0 n.toNat).map fun k : Nat => D.int (k : Int)) := by
  simp only [itemsSrc, D.isLoc, Bool.false_eq_true, if_false, itemsOf, h, and_self, if_true, List.range_eq_range']

theorem law_loop {t : Expr} {body : Ctx → Store → Res} {row : List Int} {src : D} (hsrc : ∀ σ σ', sameAt src σ σ' = true) (hrow : row.length ≤ 50) (P : Ctx → Prop)
    (hstep : ∀ (i : Nat) (R : List Row) (k : Int) (Γ : Ctx), P Γ → 0 ≤ k → i < 7 → R.length = i → Valid R → ∃ Γ1 r k', assignT t (.int (i : Int)) Γ = some Γ1 ∧ P Γ1 ∧ 0 ≤ k' ∧ Next R i r ∧ body Γ1 (lawSt k row R) = some (.next, Γ1, lawSt k' row (R ++ [r]))) :
    ∀ (c i : Nat) (R : List Row) (k : Int) (Γ : Ctx), P Γ → 0 ≤ k → i + c ≤ 7 → R.length = i → Valid R →
      ∃ R' k' Γ', P Γ' ∧ 0 ≤ k' ∧ R'.length = i + c ∧ Valid R' ∧ forL src t body ((List.range' i c).map fun k : Nat => D.int (k : Int)) Γ (lawSt k row R) = some (.next, Γ', lawSt k' row R')
  | 0, i, R, k, Γ, hP, hk, _, hR, hV => ⟨R, k, Γ, hP, hk, hR, hV, rfl⟩
  | c + 1, i, R, k, Γ, hP, hk, hic, hR, hV => by
    obtain ⟨Γ1, r, k', h1, h2, h3, h4, h5⟩ := hstep i R k Γ hP hk (by omega) hR hV
    obtain ⟨R', k'', Γ', g1, g2, g3, g4, g5⟩ := law_loop hsrc hrow P hstep c (i + 1) (R ++ [r]) k' Γ1 h2 h3 (by omega) (by simp [hR]) (.snoc hV (hR ▸ h4))
    refine ⟨R', k'', Γ', g1, g2, by omega, g4, ?_⟩
    rw [List.range'_succ, List.map_cons]
    simp only [forL, h1, h5, hsrc, if_true]
    exact g5
end Mine

-- SpH
namespace Mine
open PySem
set_option maxRecDepth 10000
set_option linter.unusedSimpArgs false
set_option linter.unusedVariables false

noncomputable def PB (Γ : Ctx) : Prop := Γ (Str.ofString "bowl") = some (.loc 0) ∧ Γ (Str.ofString "rows") = some (.loc 1)

theorem law_loop' {t : Expr} {body : Ctx → Store → Res} {row : List Int} {src : D} {m : Nat} {Γ : Ctx} {k : Int} {c : Res}
    (hc : forL src t body ((List.range' 0 m).map fun k : Nat => D.int (k : Int)) Γ (lawSt k row []) = c) (hsrc : ∀ σ σ', sameAt src σ σ' = true) (hrow : row.length ≤ 50) (hm : m ≤ 7) (hP : PB Γ) (hk : 0 ≤ k)
    (hstep : ∀ (i : Nat) (R : List Row) (k : Int) (Γ : Ctx), PB Γ → 0 ≤ k → i < 7 → R.length = i → Valid R → ∃ Γ1 r k', assignT t (.int (i : Int)) Γ = some Γ1 ∧ PB Γ1 ∧ 0 ≤ k' ∧ Next R i r ∧ body Γ1 (lawSt k row R) = some (.next, Γ1, lawSt k' row (R ++ [r]))) :
    ∃ R' k' Γ', PB Γ' ∧ 0 ≤ k' ∧ R'.length = m ∧ Valid R' ∧ c = some (.next, Γ', lawSt k' row R') := by
  obtain ⟨R', k', Γ', g1, g2, g3, g4, g5⟩ := law_loop hsrc hrow PB hstep m 0 [] k Γ hP hk (by omega) rfl .nil
  exact ⟨R', k', Γ', g1, g2, by omega, g4, hc.symm.trans g5⟩

theorem law1 {Γ : Ctx} {row : List Int} (hP : PB Γ) (hrow : row.length ≤ 50) :
    ∃ R' k' Γ', PB Γ' ∧ 0 ≤ k' ∧ 2 ≤ R'.length ∧ R'.length ≤ 7 ∧ Valid R' ∧ exSs 59 T14 [Str.ofString "bowl", Str.ofString "rows"] (B15.drop 1) Γ (lawSt 0 row []) = exSs 58 T14 [Str.ofString "bowl", Str.ofString "rows"] (B15.drop 2) Γ' (lawSt k' row R') := by
  obtain ⟨v, v0, v6, hv⟩ := gulp_spec 0 0 row 6 (lawSt 0 row []) rfl (by decide) (by decide) hrow
  have hset : (lawSt 0 row []).set 0 (bowlD (0 + 1) row) = lawSt 1 row [] := rfl
  rw [hset] at hv
  have hr : 0 ≤ 2 + v ∧ 2 + v ≤ 1000 := by omega
  have key : ∃ R' k' Γ', PB Γ' ∧ 0 ≤ k' ∧ 2 ≤ R'.length ∧ R'.length ≤ 7 ∧ Valid R' ∧ exS 58 T14 [Str.ofString "bowl", Str.ofString "rows"] (B15.drop 1).head! Γ (lawSt 0 row []) = some (.next, Γ', lawSt k' row R') := by
    conv in (List.head! _) => whnf
    simp only [eE_int, eEs_nil, sE_name, kRet_some, sE_bin, kBin1_some, kBin2_some, sE_call, kC1_fn, kC1_bi, kC3_some, sEs_cons, kE1_some, kE2_some, sS_for, kFo_none, kFo1_some, kFo3_some, kFo2_some, fz_call, deref_int, deref_rng, bin_add_int, hP.1, T14_gulp, T14_range, hv, bi_range, range_items hr]
    generalize hc : forL (D.rng (2 + v)) _ _ _ _ _ = c
    obtain ⟨R', k', Γ', g1, g2, g3, g4, rfl⟩ := law_loop' hc (fun _ _ => rfl) hrow (by omega) hP (by decide) (fun i R k Γ hP hk hi hR hV => by
      obtain ⟨r, k', q1, q2, q3⟩ := row_spec (jb := 0) (jr := 1) (k := k) (row := row) (at' := (i : Int)) (R := R) (σ := lawSt k row R) rfl rfl (by decide) hk hrow (by omega) (by omega)
      have hset : (lawSt k row R).set 0 (bowlD k' row) = lawSt k' row R := rfl
      rw [hset] at q2
      have hl : (R.map rowD).length ≤ 1000 := by simp; omega
      have happ := meth_append (k := 1) (σ := lawSt k' row R) (l := R.map rowD) (x := rowD r) rfl hl rfl
      have hd : deref (lawSt k row R) (.loc 1) = some (.lst (R.map rowD)) := rfl
      have hset2 : (lawSt k' row R).set 1 (.lst (R.map rowD ++ [rowD r])) = lawSt k' row (R ++ [r]) := by simp [lawSt]
      refine ⟨upd Γ (Str.ofString "at") (.int i), r, k', rfl, ⟨?_, ?_⟩, q1, q3, ?_⟩
      · simp only [upd, ofS_inj, String.reduceEq, if_false, hP.1]
      · simp only [upd, ofS_inj, String.reduceEq, if_false, hP.2]
      · simp only [eEs_nil, eSs_nil, sE_name, kRet_some, sE_meth, kM1_some, kM2_some, kM3_some, sE_call, kC1_fn, sEs_cons, kE1_some, kE2_some, sS_expr, kX_some, sSs_cons, kSq_next, upd, ofS_inj, String.reduceEq, if_true, if_false, hP.1, hP.2, hd, head_append, T14_row, q2, happ, hset2])
    refine ⟨R', k', Γ', g1, g2, by omega, by omega, g4, rfl⟩
  obtain ⟨R', k', Γ', g1, g2, g3, g4, g5, g6⟩ := key
  refine ⟨R', k', Γ', g1, g2, g3, g4, g5, ?_⟩
  conv => lhs; arg 4; whnf
  exact exSs_step g6 rfl
end Mine

-- SpI
namespace Mine
open PySem
set_option maxRecDepth 10000
set_option linter.unusedSimpArgs false
set_option linter.unusedVariables false

/-! ## parts and their places -/
noncomputable def kindS (r : Row) : Str := if r.sort = .b then Str.ofString "body" else Str.ofString "spec"
noncomputable def partD (r : Row) : D := .tup [.str r.name, .str (kindS r), .lst (r.names.map .str), .lst []]
noncomputable def placesK (i : Nat) : List Row → List (Key × D)
  | [] => []
  | r :: L => (.p r.name (kindS r), .int (i : Int)) :: placesK (i + 1) L
noncomputable def place (L : List Row) (n k : Str) : Option Nat := L.findIdx? fun r => decide (r.name = n) && decide (kindS r = k)

theorem placesK_kinds {n k : Str} : ∀ (L : List Row) (i : Nat), kindsOk (.p n k) (placesK i L) = true
  | [], _ => rfl
  | r :: L, i => by
    have := placesK_kinds (n := n) (k := k) L (i + 1)
    unfold kindsOk at this ⊢
    simp only [placesK, List.all_cons, this, Bool.and_true]
    rfl
theorem placesK_len : ∀ (L : List Row) (i : Nat), (placesK i L).length = L.length
  | [], _ => rfl
  | r :: L, i => by simp [placesK, placesK_len L (i + 1)]
theorem placesK_append : ∀ (L M : List Row) (i : Nat), placesK i (L ++ M) = placesK i L ++ placesK (i + L.length) M
  | [], M, i => by simp [placesK]
  | r :: L, M, i => by
    simp only [List.cons_append, placesK, placesK_append L M (i + 1), List.length_cons]
    congr 3
    omega
theorem assoc_places {n k : Str} : ∀ (L : List Row) (i : Nat), assocGet (placesK i L) (.p n k) = (place L n k).map fun j => .int ((i + j : Nat) : Int)
  | [], _ => rfl
  | r :: L, i => by
    have ih := assoc_places (n := n) (k := k) L (i + 1)
    unfold assocGet place at ih ⊢
    simp only [placesK, List.find?_cons, List.findIdx?_cons]
    by_cases h : r.name = n ∧ kindS r = k
    · obtain ⟨rfl, rfl⟩ := h
      simp
    · have h1 : decide (Key.p r.name (kindS r) = Key.p n k) = false := by simpa using h
      have h2 : (decide (r.name = n) && decide (kindS r = k)) = false := by
        rw [Bool.eq_false_iff]
        intro q
        simp only [Bool.and_eq_true, decide_eq_true_eq] at q
        exact h q
      simp only [h1, h2, Bool.false_eq_true, if_false]
      rw [ih]
      cases List.findIdx? (fun r => decide (r.name = n) && decide (kindS r = k)) L with
      | none => rfl
      | some j => simp only [Option.map_some]; congr 2; omega

theorem deref_part {σ : Store} {r : Row} : deref σ (partD r) = some (partD r) := rfl
theorem isLoc_part {r : Row} : D.isLoc (partD r) = false := rfl
theorem sub_part0 {r : Row} : subD (partD r) (.int 0) = some (.str r.name) := rfl
theorem sub_part1 {r : Row} : subD (partD r) (.int 1) = some (.str (kindS r)) := rfl
theorem sub_part2 {r : Row} : subD (partD r) (.int 2) = some (.lst (r.names.map .str)) := rfl
theorem slice_part4 {r : Row} : sliceD (partD r) none (some 4) = some (.tup [.str r.name, .str (kindS r), .lst (r.names.map .str), .lst []]) := rfl
theorem slice_part4' {r : Row} : sliceD (partD r) (some 4) none = some (.tup []) := rfl
theorem idx_at {α : Type} {enc : α → D} {L : List α} {i : Nat} (h : i < L.length) (hL : L.length ≤ 1000) : idx (L.map enc) (i : Int) = some (enc L[i]) := by
  have : (0 ≤ (i : Int) ∧ (i : Int) ≤ 1000) = True := by simp; omega
  simp only [idx, this, if_true, Int.toNat_natCast, List.getElem?_map, List.getElem?_eq_getElem h, Option.map_some]
theorem key_pair {x y : Str} : keyOf (.tup [.str x, .str y]) = some (.p x y) := rfl
theorem key_int {n : Int} : keyOf (.int n) = some (.i n) := rfl
theorem key_str {x : Str} : keyOf (.str x) = some (.s x) := rfl
theorem mem_pair {σ : Store} {x y : Str} {L : List Row} : memD (.tup [.str x, .str y]) (.dct (placesK 0 L)) = some (place L x y).isSome := by
  show (if kindsOk (.p x y) (placesK 0 L) = true then some (assocGet (placesK 0 L) (.p x y)).isSome else none) = _
  rw [if_pos (placesK_kinds _ _), assoc_places, Option.isSome_map]
theorem cmp_in_pair {σ : Store} {x y : Str} {c : D} {L : List Row} (h : deref σ c = some (.dct (placesK 0 L))) : cmpD σ .In (.tup [.str x, .str y]) c = some (place L x y).isSome := by
  exact (cmp_in_of deref_tup h).trans (mem_pair (σ := σ))
theorem cmp_notin_pair {σ : Store} {x y : Str} {c : D} {L : List Row} (h : deref σ c = some (.dct (placesK 0 L))) : cmpD σ .NotIn (.tup [.str x, .str y]) c = some (!(place L x y).isSome) := by
  rw [cmp_notin_of deref_tup h, mem_pair (σ := σ)]; rfl
theorem sub_pair {x y : Str} {L : List Row} : subD (.dct (placesK 0 L)) (.tup [.str x, .str y]) = (place L x y).map fun j => .int (j : Int) := by
  show (if kindsOk (.p x y) (placesK 0 L) = true then assocGet (placesK 0 L) (.p x y) else none) = _
  rw [if_pos (placesK_kinds _ _), assoc_places]
  simp only [Nat.zero_add]

/-- what the program's text takes for granted of its rows -/
structure Good (L : List Row) : Prop where
  uniq : ∀ i j (hi : i < L.length) (hj : j < L.length), L[i].name = L[j].name → kindS L[i] = kindS L[j] → i = j
  own : ∀ i (hi : i < L.length), L[i].sort = .b → ∃ j, ∃ hj : j < L.length, j < i ∧ L[j].name = L[i].name ∧ L[j].sort ≠ .b
  names : ∀ i (hi : i < L.length), ∀ n ∈ L[i].names, ∃ j, ∃ hj : j < L.length, j < i ∧ L[j].name = n ∧ L[j].sort ≠ .b

theorem kindS_b {r : Row} (h : r.sort = .b) : kindS r = Str.ofString "body" := by unfold kindS; rw [if_pos h]
theorem kindS_s {r : Row} (h : r.sort ≠ .b) : kindS r = Str.ofString "spec" := by unfold kindS; rw [if_neg h]
theorem place_at {L : List Row} (g : Good L) {i : Nat} (hi : i < L.length) {n k : Str} (h1 : L[i].name = n) (h2 : kindS L[i] = k) : place L n k = some i := by
  unfold place
  rw [List.findIdx?_eq_some_iff_getElem]
  refine ⟨hi, by simp [h1, h2], fun j hj => ?_⟩
  simp only [Bool.and_eq_true, decide_eq_true_eq, not_and]
  intro q1 q2
  have := g.uniq j i (Nat.lt_trans hj hi) hi (q1.trans h1.symm) (q2.trans h2.symm)
  omega
theorem place_some {L : List Row} {n k : Str} {i : Nat} (h : place L n k = some i) : ∃ hi : i < L.length, L[i].name = n ∧ kindS L[i] = k := by
  unfold place at h
  rw [List.findIdx?_eq_some_iff_getElem] at h
  obtain ⟨hi, h1, _⟩ := h
  simp only [Bool.and_eq_true, decide_eq_true_eq] at h1
  exact ⟨hi, h1⟩

noncomputable abbrev B4 : List Stmt := bodyOf (Str.ofString "places_of")
noncomputable abbrev mv4 : List Str := [Str.ofString "found"]
theorem T3_len : T3 (Str.ofString "len") = none := by kernel_rfl
theorem T3_range : T3 (Str.ofString "range") = none := by kernel_rfl

theorem places0 {Γ : Ctx} {σ : Store} : exSs 60 T3 mv4 (B4.drop 0) Γ σ = exSs 59 T3 mv4 (B4.drop 1) (upd Γ (Str.ofString "found") (.loc σ.length)) (σ ++ [.dct []]) := by
  conv => lhs; arg 4; whnf
  refine exSs_step ?_ rfl
  simp only [eP_nil, eS_assign, sF_dict, kD1_some, kD2_some, sA_name, kAd_some, tD_name, iD_dict, if_true, Bool.and_true, Bool.or_false, List.contains_cons, List.contains_nil, List.length_nil, Nat.zero_le, beq_self_eq_true, dictOfPairs]
end Mine

-- SpJ
namespace Mine
open PySem
set_option maxRecDepth 10000
set_option linter.unusedSimpArgs false
set_option linter.unusedVariables false

theorem forL_list {α : Type} {enc : α → D} {t : Expr} {body : Ctx → Store → Res} {src : D} {L : List α} (St : Nat → Ctx → Store → Prop)
    (hstep : ∀ i (hi : i < L.length) Γ σ, St i Γ σ → ∃ Γ1 Γ2 σ2, assignT t (enc L[i]) Γ = some Γ1 ∧ (body Γ1 σ = some (.next, Γ2, σ2) ∨ body Γ1 σ = some (.cont, Γ2, σ2)) ∧ sameAt src σ σ2 = true ∧ St (i + 1) Γ2 σ2) :
    ∀ (M : List α) (i : Nat) (Γ : Ctx) (σ : Store), i ≤ L.length → L.drop i = M → St i Γ σ → ∃ Γ' σ', St L.length Γ' σ' ∧ forL src t body (M.map enc) Γ σ = some (.next, Γ', σ')
  | [], i, Γ, σ, hle, hM, h => by
    have hi : L.length ≤ i := by
      have := congrArg List.length hM
      rw [List.length_drop, List.length_nil] at this
      omega
    have : i = L.length := by omega
    subst this
    exact ⟨Γ, σ, h, rfl⟩
  | x :: M, i, Γ, σ, hle, hM, h => by
    have hi : i < L.length := by
      apply Classical.byContradiction
      intro hn
      rw [List.drop_eq_nil_of_le (by omega)] at hM
      cases hM
    have hx : L[i] = x ∧ L.drop (i + 1) = M := by
      rw [List.drop_eq_getElem_cons hi] at hM
      injection hM with a b
      exact ⟨a, b⟩
    obtain ⟨Γ1, Γ2, σ2, h1, h2, h3, h4⟩ := hstep i hi Γ σ h
    obtain ⟨Γ', σ', g1, g2⟩ := forL_list St hstep M (i + 1) Γ2 σ2 (by omega) hx.2 h4
    refine ⟨Γ', σ', g1, ?_⟩
    rw [hx.1] at h1
    rcases h2 with h2 | h2 <;> simp only [List.map_cons, forL, h1, h2, h3, if_true, g2]

theorem forL_list' {α : Type} {enc : α → D} {t : Expr} {body : Ctx → Store → Res} {src : D} {L : List α} {Γ : Ctx} {σ : Store} {c : Res} (hc : forL src t body (L.map enc) Γ σ = c) (St : Nat → Ctx → Store → Prop) (h0 : St 0 Γ σ)
    (hstep : ∀ i (hi : i < L.length) Γ σ, St i Γ σ → ∃ Γ1 Γ2 σ2, assignT t (enc L[i]) Γ = some Γ1 ∧ (body Γ1 σ = some (.next, Γ2, σ2) ∨ body Γ1 σ = some (.cont, Γ2, σ2)) ∧ sameAt src σ σ2 = true ∧ St (i + 1) Γ2 σ2) :
    ∃ Γ' σ', St L.length Γ' σ' ∧ c = some (.next, Γ', σ') := by
  obtain ⟨Γ', σ', h1, h2⟩ := forL_list St hstep L 0 Γ σ (Nat.zero_le _) rfl h0
  exact ⟨Γ', σ', h1, hc.symm.trans h2⟩
theorem range_items' {n : Nat} (h : n ≤ 1000) : itemsSrc (.rng (n : Int)) (.rng (n : Int)) = some ((List.range n).map fun k : Nat => D.int (k : Int)) := by
  have : (0 ≤ (n : Int) ∧ (n : Int) ≤ 1000) = True := by simp; omega
  simp only [itemsSrc, D.isLoc, Bool.false_eq_true, if_false, itemsOf, this, if_true, Int.toNat_natCast]

/-! ## places_of -/
theorem setK_new {kvs : List (Key × D)} {k : Key} {d : D} (h : assocGet kvs k = none) : assocSet kvs k d = kvs ++ [(k, d)] := by
  simp only [assocSet, h, Option.isSome_none, Bool.false_eq_true, if_false]
theorem place_take {L : List Row} (g : Good L) {i : Nat} (hi : i < L.length) : place (L.take i) L[i].name (kindS L[i]) = none := by
  unfold place
  rw [List.findIdx?_eq_none_iff]
  intro r hr
  obtain ⟨j, hj, rfl⟩ := List.mem_iff_getElem.mp hr
  rw [List.getElem_take]
  rw [List.length_take] at hj
  rw [Bool.eq_false_iff]
  intro q
  simp only [Bool.and_eq_true, decide_eq_true_eq] at q
  have := g.uniq j i (by omega) hi q.1 q.2
  omega
theorem placesK_take {L : List Row} {i : Nat} (hi : i < L.length) : placesK 0 (L.take (i + 1)) = placesK 0 (L.take i) ++ [(.p L[i].name (kindS L[i]), .int (i : Int))] := by
  rw [List.take_add_one, List.getElem?_eq_getElem hi, Option.toList_some, placesK_append]
  have : (L.take i).length = i := by rw [List.length_take]; omega
  simp [placesK, this]

theorem set_last {σ : Store} {d e : D} : (σ ++ [d]).set σ.length e = σ ++ [e] := by
  rw [List.set_append_right _ _ (Nat.le_refl _), Nat.sub_self]; rfl
theorem get_last {σ : Store} {d : D} : (σ ++ [d])[σ.length]? = some d := by
  rw [List.getElem?_append_right (Nat.le_refl _), Nat.sub_self]; rfl

theorem places1 {Γ : Ctx} {σ : Store} {L : List Row} (g : Good L) (h1 : Γ (Str.ofString "parts") = some (.lst (L.map partD))) (h2 : Γ (Str.ofString "found") = some (.loc σ.length)) (hL : L.length ≤ 900) :
    ∃ Γ', Γ' (Str.ofString "found") = some (.loc σ.length) ∧ exSs 59 T3 mv4 (B4.drop 1) Γ (σ ++ [.dct []]) = exSs 58 T3 mv4 (B4.drop 2) Γ' (σ ++ [.dct (placesK 0 L)]) := by
  have hl : (L.map partD).length ≤ 1000 := by simp; omega
  have key : ∃ Γ', Γ' (Str.ofString "found") = some (.loc σ.length) ∧ exS 58 T3 mv4 (B4.drop 1).head! Γ (σ ++ [.dct []]) = some (.next, Γ', σ ++ [.dct (placesK 0 L)]) := by
    conv in (List.head! _) => whnf
    simp only [eEs_nil, sE_name, kRet_some, sE_call, kC1_bi, kC3_some, sEs_cons, kE1_some, kE2_some, sS_for, kFo_none, kFo1_some, kFo3_some, kFo2_some, fz_call, deref_int, deref_lst, deref_rng, h1, T3_len, T3_range, bi_len hl, List.length_map, bi_range, range_items' (show L.length ≤ 1000 by omega)]
    generalize hc : forL (D.rng _) _ _ _ _ _ = c
    obtain ⟨Γ', σ', ⟨q1, q2, q3⟩, rfl⟩ := forL_list' hc (fun i Γ σ' => Γ (Str.ofString "parts") = some (.lst (L.map partD)) ∧ Γ (Str.ofString "found") = some (.loc σ.length) ∧ σ' = σ ++ [.dct (placesK 0 (L.take i))]) ⟨h1, h2, rfl⟩ (fun i hi Γ σ' ⟨p1, p2, p3⟩ => by
      subst p3
      have hi' : i < L.length := by simpa using hi
      have hpi : place (L.take i) L[i].name (kindS L[i]) = none := place_take g hi'
      have hidx : idx (L.map partD) ((i : Nat) : Int) = some (partD L[i]) := idx_at hi' (by omega)
      have hd : deref (σ ++ [.dct (placesK 0 (L.take i))]) (.loc σ.length) = some (.dct (placesK 0 (L.take i))) := deref_locD get_last
      have hnew : assocSet (placesK 0 (L.take i)) (.p L[i].name (kindS L[i])) (.int (i : Int)) = placesK 0 (L.take (i + 1)) := by
        rw [placesK_take hi']
        exact setK_new (by rw [assoc_places, hpi]; rfl)
      have hsz : (placesK 0 (L.take i)).length ≤ 1000 := by rw [placesK_len, List.length_take]; omega
      refine ⟨_, upd (upd Γ (Str.ofString "at") (.int ((List.range L.length)[i] : Nat))) (Str.ofString "key") (.tup [.str L[i].name, .str (kindS L[i])]), σ ++ [.dct (placesK 0 (L.take (i + 1)))], rfl, .inl ?_, rfl, ?_, ?_, rfl⟩
      · rw [List.getElem_range]
        simp only [eE_int, eEs_nil, eS_assign, eSs_nil, sE_name, kRet_some, sE_tuple, kTup_some, sEs_cons, kE1_some, kE2_some, sT_cmp, kT1_some, kT2_some, kTB_some, sA_name, kAe_some, sA_sub, kAs1_some, kAs2_some, sS_if, kI_some, sSs_cons, kSq_next, tD_name, iD_tuple, sE_subN, kSub1_some, kSub2_some, kSub3_some, sE_subC, upd, ofS_inj, ofS_beq, String.reduceEq, String.reduceBEq, if_true, if_false, decide_true, Bool.and_true, Bool.and_false, Bool.or_false, Bool.not_false, Bool.false_eq_true, List.contains_cons, List.contains_nil, List.length_cons, List.length_nil, Nat.reduceAdd, Nat.reduceLeDiff, deref_lst, isLoc_str, isLoc_tup, sub_lst, plain_nil, plain_cons, p1, p2, hidx, deref_part, sub_part0, sub_part1, cmp_in_pair hd, hpi, Option.isSome_none]
        simp only [get_last, key_pair, placesK_kinds, isLoc_int, hsz, hnew, set_last, eSs_nil, kAs3_some, kAs4_some, kSq_next, if_true, decide_true, Bool.and_true, Bool.not_false, isLoc_int]
      · simp only [upd, ofS_inj, String.reduceEq, if_false, p1]
      · simp only [upd, ofS_inj, String.reduceEq, if_false, p2])
    simp only [List.length_range, List.take_length] at q3
    subst q3
    exact ⟨Γ', q2, rfl⟩
  obtain ⟨Γ', q1, q2⟩ := key
  refine ⟨Γ', q1, ?_⟩
  conv => lhs; arg 4; whnf
  exact exSs_step q2 rfl
end Mine

-- SpK
namespace Mine
open PySem
set_option maxRecDepth 10000
set_option linter.unusedSimpArgs false
set_option linter.unusedVariables false

theorem placesK_keys : ∀ (L : List Row) (i : Nat), ((placesK i L).map fun kv => ofKey kv.1) = L.map fun r => D.tup [.str r.name, .str (kindS r)]
  | [], _ => rfl
  | r :: L, i => by simp only [placesK, List.map_cons, placesK_keys L (i + 1)]; rfl

theorem spec_place {L : List Row} (g : Good L) {i : Nat} (hi : i < L.length) : (place L L[i].name (Str.ofString "spec")).isSome = true := by
  by_cases hb : L[i].sort = .b
  · obtain ⟨j, hj, _, h1, h2⟩ := g.own i hi hb
    rw [place_at g hj h1 (kindS_s h2)]; rfl
  · rw [place_at g hi rfl (kindS_s hb)]; rfl

theorem kind_body {r : Row} : decide (kindS r = Str.ofString "body") = decide (r.sort = .b) := by
  unfold kindS
  split <;> rename_i h <;> simp [h, ofS_inj]

theorem places2 {Γ : Ctx} {σ : Store} {L : List Row} (g : Good L) (h2 : Γ (Str.ofString "found") = some (.loc σ.length)) (hL : L.length ≤ 900) :
    ∃ Γ', Γ' (Str.ofString "found") = some (.dct (placesK 0 L)) ∧ exSs 58 T3 mv4 (B4.drop 2) Γ (σ ++ [.dct (placesK 0 L)]) = exSs 57 T3 mv4 (B4.drop 3) Γ' (σ ++ [.nil]) := by
  have hsz : (placesK 0 L).length ≤ 1000 := by rw [placesK_len]; omega
  have key : ∃ Γ', Γ' (Str.ofString "found") = some (.dct (placesK 0 L)) ∧ exS 57 T3 mv4 (B4.drop 2).head! Γ (σ ++ [.dct (placesK 0 L)]) = some (.next, Γ', σ ++ [.nil]) := by
    conv in (List.head! _) => whnf
    simp only [sS_for, kFo_some, kFo2_some, fz_name, if_true, h2, get_last, itemsOf, hsz, if_true, set_last, placesK_keys]
    generalize hc : forL D.nil _ _ _ _ _ = c
    obtain ⟨Γ', σ', ⟨q1, q2⟩, rfl⟩ := forL_list' hc (fun i Γ σ' => Γ (Str.ofString "found") = some (.dct (placesK 0 L)) ∧ σ' = σ ++ [.nil]) ⟨by simp only [upd, if_true], rfl⟩ (fun i hi Γ σ' ⟨p1, p2⟩ => by
      subst p2
      refine ⟨_, upd (upd Γ (Str.ofString "name") (.str L[i].name)) (Str.ofString "sort") (.str (kindS L[i])), σ ++ [.nil], rfl, .inl ?_, rfl, ?_, rfl⟩
      · by_cases hb : L[i].sort = .b
        · simp only [eE_str, eEs_nil, eT_bool, eSs_nil, sE_name, kRet_some, sE_tuple, kTup_some, sEs_cons, kE1_some, kE2_some, sT_cmp, kT1_some, kT2_some, kTB_some, sB_and, kBa_f, kBa_t, sS_if, kI_some, sSs_cons, kSq_next, upd, ofS_inj, String.reduceEq, if_true, if_false, decide_true, Bool.and_true, Bool.not_true, Bool.not_false, Bool.false_eq_true, List.length_cons, List.length_nil, Nat.reduceAdd, Nat.reduceLeDiff, isLoc_str, cmp_eq_str, plain_nil, plain_cons, p1, kind_body, hb, cmp_notin_pair deref_dct, spec_place g hi]
        · simp only [eE_str, eT_bool, eSs_nil, sE_name, kRet_some, sT_cmp, kT1_some, kT2_some, kTB_some, sB_and, kBa_f, sS_if, kI_some, sSs_cons, kSq_next, upd, ofS_inj, String.reduceEq, if_true, if_false, decide_false, Bool.false_eq_true, cmp_eq_str, kind_body, hb]
      · simp only [upd, ofS_inj, String.reduceEq, if_false, p1])
    subst q2
    exact ⟨Γ', q1, rfl⟩
  obtain ⟨Γ', q1, q2⟩ := key
  refine ⟨Γ', q1, ?_⟩
  conv => lhs; arg 4; whnf
  exact exSs_step q2 rfl

theorem places_spec {σ : Store} {L : List Row} (g : Good L) (hL : L.length ≤ 900) : fn4 [.lst (L.map partD)] σ = some (.dct (placesK 0 L), σ) := by
  obtain ⟨Γ0, hΓ0⟩ : ∃ Γ, Γ = upd noCtx (Str.ofString "parts") (.lst (L.map partD)) := ⟨_, rfl⟩
  obtain ⟨Γ1, q1, s1⟩ := places1 (Γ := upd Γ0 (Str.ofString "found") (.loc σ.length)) (σ := σ) g (by rw [hΓ0]; simp only [upd, ofS_inj, String.reduceEq, if_true, if_false]) (by simp only [upd, if_true]) hL
  obtain ⟨Γ2, q2, s2⟩ := places2 (Γ := Γ1) (σ := σ) g q1 hL
  have s3 : exSs 57 T3 mv4 (B4.drop 3) Γ2 (σ ++ [.nil]) = some (.ret (.dct (placesK 0 L)), Γ2, σ ++ [.nil]) := by
    conv => lhs; arg 4; whnf
    apply exSs_ret
    simp only [sE_name, kRet_some, sS_ret, kR_some, q2]
  have all : exSs 60 T3 mv4 (B4.drop 0) Γ0 σ = some (.ret (.dct (placesK 0 L)), Γ2, σ ++ [.nil]) := by rw [places0, s1, s2, s3]
  unfold fn4 mkFn
  conv in (defOf _ _) => whnf
  refine runFn_of ?_ all ?_
  · rw [hΓ0]; rfl
  · show some (D.dct (placesK 0 L), (σ ++ [D.nil]).take σ.length) = _
    rw [List.take_left]
end Mine

-- SpL
namespace Mine
open PySem
set_option maxRecDepth 10000
set_option linter.unusedSimpArgs false
set_option linter.unusedVariables false

/-! ## needs_of -/
noncomputable def reqNames (r : Row) : List Str := (if r.sort = .b then [r.name] else []) ++ r.names
noncomputable def specAt (L : List Row) (n : Str) : Nat := (place L n (Str.ofString "spec")).getD 0
noncomputable def dd (l : List Nat) : List Nat := l.foldl (fun acc k => if k ∈ acc then acc else acc ++ [k]) []
noncomputable def needsF (L : List Row) (r : Row) : List Nat := dd ((reqNames r).map (specAt L))
noncomputable def intsD (l : List Nat) : List D := l.map fun k : Nat => D.int (k : Int)
noncomputable def specKeyD (n : Str) : D := .tup [.str n, .str (Str.ofString "spec")]

theorem inL_ints (a : Nat) : ∀ (l : List Nat), inL (intsD l) (.int (a : Int)) = some (decide (a ∈ l))
  | [] => rfl
  | b :: l => by
    have ih := inL_ints a l
    unfold inL intsD at ih ⊢
    simp only [List.map_cons, eEach_cons, eqD_int, Option.bind_some] at ih ⊢
    rw [Option.map_eq_some_iff] at ih
    obtain ⟨bs, h1, h2⟩ := ih
    rw [h1]
    simp only [Option.map_some, List.any_cons, id, h2, Option.some.injEq]
    rw [Bool.eq_iff_iff]
    simp only [Bool.or_eq_true, decide_eq_true_eq, List.mem_cons, Int.natCast_inj]
    constructor
    · rintro (h | h)
      · exact .inl h.symm
      · exact .inr h
    · rintro (h | h)
      · exact .inl h.symm
      · exact .inr h
theorem cmp_notin_ints {σ : Store} {a : Nat} {c : D} {l : List Nat} (h : deref σ c = some (.lst (intsD l))) : cmpD σ .NotIn (.int (a : Int)) c = some (!decide (a ∈ l)) := by
  rw [cmp_notin_of deref_int h]; exact congrArg (Option.map (!·)) (inL_ints a l)
theorem cmp_in_ints {σ : Store} {a : Nat} {c : D} {l : List Nat} (h : deref σ c = some (.lst (intsD l))) : cmpD σ .In (.int (a : Int)) c = some (decide (a ∈ l)) := by
  exact (cmp_in_of deref_int h).trans (inL_ints a l)
theorem bi_list {l : List D} (h : l.length ≤ 1000) : builtinD (Str.ofString "list") [.tup l] = some (.lst l) := by
  simp only [builtinD, bi1, bi2, bi3, bi4, bi5, bi6, ofS_inj, String.reduceEq, if_false, if_true, h]

theorem dd_take {l : List Nat} {i : Nat} (hi : i < l.length) : dd (l.take (i + 1)) = if l[i] ∈ dd (l.take i) then dd (l.take i) else dd (l.take i) ++ [l[i]] := by
  rw [List.take_add_one, List.getElem?_eq_getElem hi, Option.toList_some]
  unfold dd
  rw [List.foldl_append]
  rfl
theorem dd_len : ∀ (l : List Nat) (acc : List Nat), (l.foldl (fun acc k => if k ∈ acc then acc else acc ++ [k]) acc).length ≤ acc.length + l.length
  | [], acc => by simp
  | x :: l, acc => by
    rw [List.foldl_cons]
    refine Nat.le_trans (dd_len l _) ?_
    split
    · simp only [List.length_cons]; omega
    · simp only [List.length_append, List.length_cons, List.length_nil]; omega
theorem dd_mem {k : Nat} : ∀ (l : List Nat) (acc : List Nat), k ∈ l.foldl (fun acc k => if k ∈ acc then acc else acc ++ [k]) acc ↔ k ∈ acc ∨ k ∈ l
  | [], acc => by simp
  | x :: l, acc => by
    rw [List.foldl_cons, dd_mem l]
    by_cases hx : x ∈ acc
    · rw [if_pos hx]
      simp only [List.mem_cons]
      constructor
      · rintro (h | h)
        · exact .inl h
        · exact .inr (.inr h)
      · rintro (h | rfl | h)
        · exact .inl h
        · exact .inl hx
        · exact .inr h
    · rw [if_neg hx]
      simp only [List.mem_append, List.mem_cons, List.not_mem_nil, or_false]
      exact or_assoc
theorem mem_dd {k : Nat} {l : List Nat} : k ∈ dd l ↔ k ∈ l := by
  unfold dd
  rw [dd_mem]
  simp
theorem len_dd {l : List Nat} : (dd l).length ≤ l.length := by
  have := dd_len l []
  unfold dd
  simpa using this

noncomputable abbrev B5 : List Stmt := bodyOf (Str.ofString "needs_of")
noncomputable abbrev mv5 : List Str := [Str.ofString "keys", Str.ofString "found"]
theorem T4_list : T4 (Str.ofString "list") = none := by kernel_rfl

section
variable {Γ : Ctx} {σ : Store} {L : List Row} {i : Nat}

theorem needs0 (h1 : Γ (Str.ofString "parts") = some (.lst (L.map partD))) (h2 : Γ (Str.ofString "at") = some (.int (i : Int))) (hi : i < L.length) (hL : L.length ≤ 900) : exSs 60 T4 mv5 (B5.drop 0) Γ σ =
    exSs 59 T4 mv5 (B5.drop 1) (upd (upd (upd (upd Γ (Str.ofString "name") (.str L[i].name)) (Str.ofString "sort") (.str (kindS L[i]))) (Str.ofString "withs") (.lst (L[i].names.map .str))) (Str.ofString "elaborates") (.lst [])) σ := by
  have hidx : idx (L.map partD) ((i : Nat) : Int) = some (partD L[i]) := idx_at hi (by omega)
  conv => lhs; arg 4; whnf
  refine exSs_step ?_ rfl
  simp only [eE_int, eO_none, eS_assign, sE_name, kRet_some, sE_slice, kSl1_some, kSl2_some, kSl3_some, kSl4_some, sO_some, kO_some, kAt2_some, kAc_some, sA_ts, aT_tup, aN_nil, aN_cons, sE_subN, kSub1_some, kSub2_some, kSub3_some, deref_lst, sub_lst, h1, h2, hidx, deref_part, slice_part4]

theorem needs1 : exSs 59 T4 mv5 (B5.drop 1) Γ σ = exSs 58 T4 mv5 (B5.drop 2) (upd Γ (Str.ofString "keys") (.loc σ.length)) (σ ++ [.lst []]) := by
  conv => lhs; arg 4; whnf
  refine exSs_step ?_ rfl
  simp only [eEs_nil, eS_assign, sE_list, kLst_some, sF_list, sA_name, kAd_some, kAe_some, tD_name, iD_list, ofS_beq, String.reduceBEq, if_true, if_false, decide_true, Bool.and_true, Bool.or_false, Bool.false_eq_true, List.contains_cons, List.contains_nil, List.length_nil, Nat.zero_le, beq_self_eq_true, isLoc_lst, plain_nil, ofS_beq]

theorem needs2 {r : Row} (h1 : Γ (Str.ofString "sort") = some (.str (kindS r))) (h2 : Γ (Str.ofString "name") = some (.str r.name)) (h3 : Γ (Str.ofString "keys") = some (.loc σ.length)) : exSs 58 T4 mv5 (B5.drop 2) Γ (σ ++ [.lst []]) =
    exSs 57 T4 mv5 (B5.drop 3) Γ (σ ++ [.lst ((if r.sort = .b then [r.name] else []).map specKeyD)]) := by
  have hd : deref (σ ++ [.lst []]) (.loc σ.length) = some (.lst []) := deref_locL get_last
  have happ := meth_append (k := σ.length) (σ := σ ++ [.lst []]) (l := []) (x := specKeyD r.name) get_last (by simp) rfl
  rw [set_last] at happ
  conv => lhs; arg 4; whnf
  refine exSs_step ?_ rfl
  by_cases hb : r.sort = .b
  · simp only [eE_str, eEs_nil, eSs_nil, sE_name, kRet_some, sE_tuple, kTup_some, sE_meth, kM1_some, kM2_some, kM3_some, sEs_cons, kE1_some, kE2_some, sT_cmp, kT1_some, kT2_some, kTB_some, sS_expr, sS_if, kI_some, sSs_cons, if_true, decide_true, Bool.and_true, Bool.not_false, List.length_cons, List.length_nil, Nat.reduceAdd, Nat.reduceLeDiff, List.map_cons, List.map_nil, isLoc_str, cmp_eq_str, plain_nil, plain_cons, h1, h2, h3, kind_body, hb, hd, head_append]
    rw [show D.tup [.str r.name, .str (Str.ofString "spec")] = specKeyD r.name from rfl, happ]
    rfl
  · simp only [eE_str, eSs_nil, sE_name, kRet_some, sE_meth, sT_cmp, kT1_some, kT2_some, kTB_some, sS_expr, sS_if, kI_some, sSs_cons, if_false, decide_false, Bool.false_eq_true, List.map_nil, cmp_eq_str, h1, kind_body, hb]

/-- every name that a row needs is an earlier spec -/
theorem req_spec (g : Good L) (hi : i < L.length) {n : Str} (hn : n ∈ reqNames L[i]) : ∃ j, ∃ hj : j < L.length, j < i ∧ L[j].name = n ∧ L[j].sort ≠ .b ∧ place L n (Str.ofString "spec") = some j := by
  unfold reqNames at hn
  rcases List.mem_append.mp hn with hn | hn
  · split at hn
    · rename_i hb
      simp only [List.mem_singleton] at hn
      subst hn
      obtain ⟨j, hj, h1, h2, h3⟩ := g.own i hi hb
      exact ⟨j, hj, h1, h2, h3, place_at g hj h2 (kindS_s h3)⟩
    · cases hn
  · obtain ⟨j, hj, h1, h2, h3⟩ := g.names i hi n hn
    exact ⟨j, hj, h1, h2, h3, place_at g hj h2 (kindS_s h3)⟩

theorem needs3 {r : Row} {p : D} (g : Good L) (hi : i < L.length) (h1 : Γ (Str.ofString "withs") = some (.lst (L[i].names.map .str))) (h2 : Γ (Str.ofString "places") = some (.dct (placesK 0 L))) (h3 : Γ (Str.ofString "keys") = some (.loc σ.length)) (hn : L[i].names.length ≤ 800) (P : Ctx → Prop) (hP : P Γ) (hPu : ∀ Γ d, P Γ → P (upd Γ (Str.ofString "other") d)) :
    ∃ Γ', P Γ' ∧ Γ' (Str.ofString "places") = some (.dct (placesK 0 L)) ∧ Γ' (Str.ofString "keys") = some (.loc σ.length) ∧
      exSs 57 T4 mv5 (B5.drop 3) Γ (σ ++ [.lst ((if L[i].sort = .b then [L[i].name] else []).map specKeyD)]) = exSs 56 T4 mv5 (B5.drop 4) Γ' (σ ++ [.lst ((reqNames L[i]).map specKeyD)]) := by
  have hl : (L[i].names.map D.str).length ≤ 1000 := by simp; omega
  have hpre : (if L[i].sort = .b then [L[i].name] else []).length ≤ 1 := by split <;> simp
  have key : ∃ Γ', P Γ' ∧ Γ' (Str.ofString "places") = some (.dct (placesK 0 L)) ∧ Γ' (Str.ofString "keys") = some (.loc σ.length) ∧
      exS 56 T4 mv5 (B5.drop 3).head! Γ (σ ++ [.lst ((if L[i].sort = .b then [L[i].name] else []).map specKeyD)]) = some (.next, Γ', σ ++ [.lst ((reqNames L[i]).map specKeyD)]) := by
    conv in (List.head! _) => whnf
    simp only [sE_name, kRet_some, sS_for, kFo_none, kFo1_some, kFo3_some, kFo2_some, fz_name, deref_lst, h1, deref_lst, items_lst hl]
    generalize hpr : (if L[i].sort = .b then [L[i].name] else []) = pre at hpre ⊢
    have hreq : reqNames L[i] = pre ++ L[i].names := by unfold reqNames; rw [hpr]
    generalize hc : forL (D.lst (L[i].names.map D.str)) _ _ _ _ _ = c
    obtain ⟨Γ', σ', ⟨q1, q2, q3, q4⟩, rfl⟩ := forL_list' hc (fun j Γ σ' => P Γ ∧ Γ (Str.ofString "places") = some (.dct (placesK 0 L)) ∧ Γ (Str.ofString "keys") = some (.loc σ.length) ∧ σ' = σ ++ [.lst ((pre ++ L[i].names.take j).map specKeyD)]) ⟨hP, h2, h3, by simp⟩ (fun j hj Γ σ' ⟨p1, p2, p3, p4⟩ => by
      subst p4
      have hmem : L[i].names[j] ∈ reqNames L[i] := by rw [hreq]; exact List.mem_append_right _ (List.getElem_mem hj)
      obtain ⟨jj, _, _, _, _, hpl⟩ := req_spec g hi hmem
      have hd : deref (σ ++ [.lst ((pre ++ L[i].names.take j).map specKeyD)]) (.loc σ.length) = some (.lst ((pre ++ L[i].names.take j).map specKeyD)) := deref_locL get_last
      have happ := meth_append (k := σ.length) (σ := σ ++ [.lst ((pre ++ L[i].names.take j).map specKeyD)]) (x := specKeyD L[i].names[j]) get_last (by simp; omega) rfl
      rw [set_last, show (pre ++ L[i].names.take j).map specKeyD ++ [specKeyD L[i].names[j]] = (pre ++ L[i].names.take (j + 1)).map specKeyD from by rw [List.take_add_one, List.getElem?_eq_getElem hj]; simp only [List.map_append, List.map_cons, List.map_nil, Option.toList_some, List.append_assoc]] at happ
      refine ⟨_, upd Γ (Str.ofString "other") (.str L[i].names[j]), σ ++ [.lst ((pre ++ L[i].names.take (j + 1)).map specKeyD)], rfl, .inl ?_, rfl, hPu _ _ p1, ?_, ?_, rfl⟩
      · simp only [eE_str, eEs_nil, eSs_nil, sE_name, kRet_some, sE_tuple, kTup_some, sE_meth, kM1_some, kM2_some, kM3_some, sEs_cons, kE1_some, kE2_some, sT_cmp, kT1_some, kT2_some, kTB_some, sS_expr, sS_if, kI_some, sSs_cons, kSq_next, upd, ofS_inj, String.reduceEq, if_true, if_false, decide_true, Bool.and_true, Bool.not_true, Bool.not_false, Bool.false_eq_true, List.length_cons, List.length_nil, Nat.reduceAdd, Nat.reduceLeDiff, isLoc_str, plain_nil, plain_cons, p2, p3, cmp_notin_pair deref_dct, hpl, Option.isSome_some, hd, head_append]
        rw [show D.tup [.str L[i].names[j], .str (Str.ofString "spec")] = specKeyD L[i].names[j] from rfl, happ]
        rfl
      · simp only [upd, ofS_inj, String.reduceEq, if_false, p2]
      · simp only [upd, ofS_inj, String.reduceEq, if_false, p3])
    rw [List.take_length] at q4
    subst q4
    exact ⟨Γ', q1, q2, q3, by rw [hreq]⟩
  obtain ⟨Γ', q0, q1, q2, q3⟩ := key
  refine ⟨Γ', q0, q1, q2, ?_⟩
  conv => lhs; arg 4; whnf
  exact exSs_step q3 rfl

theorem needs4 (h1 : Γ (Str.ofString "parts") = some (.lst (L.map partD))) (h2 : Γ (Str.ofString "at") = some (.int (i : Int))) (h3 : Γ (Str.ofString "elaborates") = some (.lst [])) (hi : i < L.length) (hL : L.length ≤ 900) : exSs 56 T4 mv5 (B5.drop 4) Γ σ = exSs 55 T4 mv5 (B5.drop 5) Γ σ := by
  have hidx : idx (L.map partD) ((i : Nat) : Int) = some (partD L[i]) := idx_at hi (by omega)
  conv => lhs; arg 4; whnf
  refine exSs_step ?_ rfl
  simp only [eE_int, eEs_nil, eO_none, sE_name, kRet_some, sE_bin, kBin1_some, kBin2_some, sE_slice, kSl1_some, kSl2_some, kSl3_some, kSl4_some, sE_call, kC1_bi, kC3_some, sEs_cons, kE1_some, kE2_some, sO_some, kO_some, sS_for, kFo_none, kFo1_some, kFo3_some, kFo2_some, fz_bin, sE_subN, kSub1_some, kSub2_some, kSub3_some, if_true, List.length_nil, Nat.reduceAdd, Nat.zero_le, deref_tup, deref_lst, bin_add_lst, sub_lst, h1, h2, h3, hidx, deref_part, slice_part4', T4_list, bi_list (l := []) (by simp), items_lst (l := []) (by simp), List.append_nil, forL]

theorem needs5 : exSs 55 T4 mv5 (B5.drop 5) Γ σ = exSs 54 T4 mv5 (B5.drop 6) (upd Γ (Str.ofString "found") (.loc σ.length)) (σ ++ [.lst []]) := by
  conv => lhs; arg 4; whnf
  refine exSs_step ?_ rfl
  simp only [eEs_nil, eS_assign, sE_list, kLst_some, sF_list, sA_name, kAd_some, kAe_some, tD_name, iD_list, ofS_beq, String.reduceBEq, if_true, if_false, decide_true, Bool.and_true, Bool.or_true, Bool.or_false, Bool.false_eq_true, List.contains_cons, List.contains_nil, List.length_nil, Nat.zero_le, beq_self_eq_true, isLoc_lst, plain_nil, ofS_beq]
end
end Mine

-- SpM
namespace Mine
open PySem
set_option maxRecDepth 10000
set_option linter.unusedSimpArgs false
set_option linter.unusedVariables false

theorem sameAt_both {k : Nat} {σ σ' : Store} {d : D} (h : σ[k]? = some d) (h' : σ'[k]? = some d) : sameAt (.loc k) σ σ' = true := by
  simp only [sameAt, h, h', beqD_refl]
theorem get_before {σ : Store} {d e : D} : (σ ++ [d] ++ [e])[σ.length]? = some d := by
  rw [List.append_assoc, List.getElem?_append_right (Nat.le_refl _), Nat.sub_self]; rfl
theorem finish_loc {σ σ1 : Store} {k n : Nat} {l : List D} (hk : n ≤ k) (h : σ1[k]? = some (.lst l)) (ht : σ1.take n = σ) : finish n (.loc k) σ1 = some (.lst l, σ) := by
  simp only [finish, hk, if_true, deref_locL h, Option.map_some, ht]
theorem intsD_len {l : List Nat} : (intsD l).length = l.length := by simp [intsD]

section
variable {Γ : Ctx} {σ : Store} {L : List Row} {i : Nat}

theorem needs6 (g : Good L) (hi : i < L.length) (h1 : Γ (Str.ofString "keys") = some (.loc σ.length)) (h2 : Γ (Str.ofString "places") = some (.dct (placesK 0 L))) (h3 : Γ (Str.ofString "found") = some (.loc (σ.length + 1))) (hn : (reqNames L[i]).length ≤ 800) :
    ∃ Γ', Γ' (Str.ofString "found") = some (.loc (σ.length + 1)) ∧
      exSs 54 T4 mv5 (B5.drop 6) Γ (σ ++ [.lst ((reqNames L[i]).map specKeyD)] ++ [.lst []]) = exSs 53 T4 mv5 (B5.drop 7) Γ' (σ ++ [.lst ((reqNames L[i]).map specKeyD)] ++ [.lst (intsD (needsF L L[i]))]) := by
  have hl : ((reqNames L[i]).map specKeyD).length ≤ 1000 := by simp; omega
  obtain ⟨K, hK⟩ : ∃ K, K = D.lst ((reqNames L[i]).map specKeyD) := ⟨_, rfl⟩
  have hlen : (σ ++ [K]).length = σ.length + 1 := by simp
  have hlast : ∀ d, (σ ++ [K] ++ [d])[σ.length + 1]? = some d := fun d => by rw [← hlen]; exact get_last
  have hset : ∀ d e, (σ ++ [K] ++ [d]).set (σ.length + 1) e = σ ++ [K] ++ [e] := fun d e => by rw [← hlen]; exact set_last
  have key : ∃ Γ', Γ' (Str.ofString "found") = some (.loc (σ.length + 1)) ∧
      exS 53 T4 mv5 (B5.drop 6).head! Γ (σ ++ [K] ++ [.lst []]) = some (.next, Γ', σ ++ [K] ++ [.lst (intsD (needsF L L[i]))]) := by
    conv in (List.head! _) => whnf
    have hfd : (σ ++ [K] ++ [D.lst []])[σ.length]? = some (.lst ((reqNames L[i]).map specKeyD)) := by rw [← hK]; exact get_before
    simp only [sE_name, kRet_some, sS_for, kFo_none, kFo1_some, kFo3_some, kFo2_some, fz_name, h1, hfd, deref_locL hfd, items_loc hl]
    generalize hc : forL (D.loc σ.length) _ _ _ _ _ = c
    obtain ⟨Γ', σ', ⟨q1, q2, q3⟩, rfl⟩ := forL_list' hc (fun j Γ σ' => Γ (Str.ofString "places") = some (.dct (placesK 0 L)) ∧ Γ (Str.ofString "found") = some (.loc (σ.length + 1)) ∧ σ' = σ ++ [K] ++ [.lst (intsD (dd (((reqNames L[i]).map (specAt L)).take j)))]) ⟨h2, h3, rfl⟩ (fun j hj Γ σ' ⟨p1, p2, p3⟩ => by
      subst p3
      obtain ⟨jj, _, _, _, _, hpl⟩ := req_spec g hi (List.getElem_mem hj)
      have hjw : j < ((reqNames L[i]).map (specAt L)).length := by simpa using hj
      have hsp : ((reqNames L[i]).map (specAt L))[j] = jj := by simp only [List.getElem_map, specAt, hpl, Option.getD_some]
      have hdt := dd_take hjw
      rw [hsp] at hdt
      have hd : deref (σ ++ [K] ++ [.lst (intsD (dd (((reqNames L[i]).map (specAt L)).take j)))]) (.loc (σ.length + 1)) = some (.lst (intsD (dd (((reqNames L[i]).map (specAt L)).take j)))) := deref_locL (hlast _)
      have hle : (dd (((reqNames L[i]).map (specAt L)).take j)).length ≤ 900 := Nat.le_trans len_dd (by rw [List.length_take, List.length_map]; omega)
      have happ := meth_append (k := σ.length + 1) (σ := σ ++ [K] ++ [.lst (intsD (dd (((reqNames L[i]).map (specAt L)).take j)))]) (x := .int (jj : Int)) (hlast _) (by rw [intsD_len]; omega) rfl
      rw [hset] at happ
      have hsub : subD (.dct (placesK 0 L)) (specKeyD (reqNames L[i])[j]) = some (.int (jj : Int)) := by unfold specKeyD; rw [sub_pair, hpl]; rfl
      have hds : ∀ σ' : Store, deref σ' (specKeyD (reqNames L[i])[j]) = some (specKeyD (reqNames L[i])[j]) := fun _ => rfl
      refine ⟨_, upd Γ (Str.ofString "key") (specKeyD (reqNames L[i])[j]), σ ++ [K] ++ [.lst (intsD (dd (((reqNames L[i]).map (specAt L)).take (j + 1))))], rfl, .inl ?_, sameAt_both get_before get_before, ?_, ?_, rfl⟩
      · by_cases hm : jj ∈ dd (((reqNames L[i]).map (specAt L)).take j)
        · rw [if_pos hm] at hdt
          simp only [eSs_nil, sE_name, kRet_some, sE_meth, kM1_some, sT_cmp, kT1_some, kT2_some, kTB_some, sS_expr, sS_if, kI_some, sSs_cons, kSq_next, sE_subN, kSub1_some, kSub2_some, kSub3_some, upd, ofS_inj, String.reduceEq, if_true, if_false, decide_true, Bool.not_true, Bool.false_eq_true, deref_dct, p1, p2, hsub, cmp_notin_ints hd, hm, hdt]
        · rw [if_neg hm] at hdt
          simp only [eEs_nil, eSs_nil, sE_name, kRet_some, sE_meth, kM1_some, kM2_some, kM3_some, sEs_cons, kE1_some, kE2_some, sT_cmp, kT1_some, kT2_some, kTB_some, sS_expr, kX_some, sS_if, kI_some, sSs_cons, kSq_next, sE_subN, kSub1_some, kSub2_some, kSub3_some, upd, ofS_inj, String.reduceEq, if_true, if_false, decide_false, Bool.not_false, deref_dct, p1, p2, hsub, cmp_notin_ints hd, hm, hd, head_append, happ]
          rw [hdt]
          simp [intsD]
      · simp only [upd, ofS_inj, String.reduceEq, if_false, p1]
      · simp only [upd, ofS_inj, String.reduceEq, if_false, p2])
    have ht : ((reqNames L[i]).map (specAt L)).take (reqNames L[i]).length = (reqNames L[i]).map (specAt L) := List.take_of_length_le (by simp)
    rw [ht] at q3
    subst q3
    exact ⟨Γ', q2, rfl⟩
  rw [← hK]
  obtain ⟨Γ', q1, q2⟩ := key
  refine ⟨Γ', q1, ?_⟩
  conv => lhs; arg 4; whnf
  exact exSs_step q2 rfl

theorem req_len {r : Row} : (reqNames r).length ≤ r.names.length + 1 := by
  unfold reqNames
  rw [List.length_append]
  split <;> simp <;> omega

theorem needs_spec (g : Good L) (hi : i < L.length) (hL : L.length ≤ 900) (hn : L[i].names.length ≤ 700) : fn5 [.lst (L.map partD), .dct (placesK 0 L), .int (i : Int)] σ = some (.lst (intsD (needsF L L[i])), σ) := by
  obtain ⟨Γ0, hΓ0⟩ : ∃ Γ, Γ = upd (upd (upd noCtx (Str.ofString "parts") (.lst (L.map partD))) (Str.ofString "places") (.dct (placesK 0 L))) (Str.ofString "at") (.int (i : Int)) := ⟨_, rfl⟩
  have a1 : Γ0 (Str.ofString "parts") = some (.lst (L.map partD)) := by rw [hΓ0]; simp only [upd, ofS_inj, String.reduceEq, if_true, if_false]
  have a2 : Γ0 (Str.ofString "places") = some (.dct (placesK 0 L)) := by rw [hΓ0]; simp only [upd, ofS_inj, String.reduceEq, if_true, if_false]
  have a3 : Γ0 (Str.ofString "at") = some (.int (i : Int)) := by rw [hΓ0]; simp only [upd, ofS_inj, String.reduceEq, if_true, if_false]
  have hrl : (reqNames L[i]).length ≤ 800 := by have := req_len (r := L[i]); omega
  have s0 := needs0 (σ := σ) a1 a3 hi hL
  generalize hΓ1 : upd (upd (upd (upd Γ0 (Str.ofString "name") (.str L[i].name)) (Str.ofString "sort") (.str (kindS L[i]))) (Str.ofString "withs") (.lst (L[i].names.map .str))) (Str.ofString "elaborates") (.lst []) = Γ1 at s0
  have s1 := needs1 (Γ := Γ1) (σ := σ)
  generalize hΓ2 : upd Γ1 (Str.ofString "keys") (.loc σ.length) = Γ2 at s1
  have b1 : Γ2 (Str.ofString "parts") = some (.lst (L.map partD)) := by rw [← hΓ2, ← hΓ1]; simp only [upd, ofS_inj, String.reduceEq, if_false, a1]
  have b2 : Γ2 (Str.ofString "places") = some (.dct (placesK 0 L)) := by rw [← hΓ2, ← hΓ1]; simp only [upd, ofS_inj, String.reduceEq, if_false, a2]
  have b3 : Γ2 (Str.ofString "at") = some (.int (i : Int)) := by rw [← hΓ2, ← hΓ1]; simp only [upd, ofS_inj, String.reduceEq, if_false, a3]
  have b4 : Γ2 (Str.ofString "name") = some (.str L[i].name) := by rw [← hΓ2, ← hΓ1]; simp only [upd, ofS_inj, String.reduceEq, if_true, if_false]
  have b5 : Γ2 (Str.ofString "sort") = some (.str (kindS L[i])) := by rw [← hΓ2, ← hΓ1]; simp only [upd, ofS_inj, String.reduceEq, if_true, if_false]
  have b6 : Γ2 (Str.ofString "withs") = some (.lst (L[i].names.map .str)) := by rw [← hΓ2, ← hΓ1]; simp only [upd, ofS_inj, String.reduceEq, if_true, if_false]
  have b7 : Γ2 (Str.ofString "elaborates") = some (.lst []) := by rw [← hΓ2, ← hΓ1]; simp only [upd, ofS_inj, String.reduceEq, if_true, if_false]
  have b8 : Γ2 (Str.ofString "keys") = some (.loc σ.length) := by rw [← hΓ2]; simp only [upd, if_true]
  have s2 := needs2 (Γ := Γ2) (σ := σ) b5 b4 b8
  obtain ⟨Γ3, ⟨c1, c2, c3⟩, c4, c5, s3⟩ := needs3 (r := L[i]) (p := .nil) (Γ := Γ2) (σ := σ) g hi b6 b2 b8 (by omega) (fun Γ => Γ (Str.ofString "parts") = some (.lst (L.map partD)) ∧ Γ (Str.ofString "at") = some (.int (i : Int)) ∧ Γ (Str.ofString "elaborates") = some (.lst [])) ⟨b1, b3, b7⟩ (fun Γ d ⟨x1, x2, x3⟩ => ⟨by simp only [upd, ofS_inj, String.reduceEq, if_false, x1], by simp only [upd, ofS_inj, String.reduceEq, if_false, x2], by simp only [upd, ofS_inj, String.reduceEq, if_false, x3]⟩)
  have s4 := needs4 (Γ := Γ3) (σ := σ ++ [.lst ((reqNames L[i]).map specKeyD)]) c1 c2 c3 hi hL
  have s5 := needs5 (Γ := Γ3) (σ := σ ++ [.lst ((reqNames L[i]).map specKeyD)])
  have hlen : (σ ++ [D.lst ((reqNames L[i]).map specKeyD)]).length = σ.length + 1 := by simp
  rw [hlen] at s5
  obtain ⟨Γ6, d1, s6⟩ := needs6 (Γ := upd Γ3 (Str.ofString "found") (.loc (σ.length + 1))) (σ := σ) g hi (by simp only [upd, ofS_inj, String.reduceEq, if_false, c5]) (by simp only [upd, ofS_inj, String.reduceEq, if_false, c4]) (by simp only [upd, if_true]) hrl
  have s7 : exSs 53 T4 mv5 (B5.drop 7) Γ6 (σ ++ [.lst ((reqNames L[i]).map specKeyD)] ++ [.lst (intsD (needsF L L[i]))]) = some (.ret (.loc (σ.length + 1)), Γ6, σ ++ [.lst ((reqNames L[i]).map specKeyD)] ++ [.lst (intsD (needsF L L[i]))]) := by
    conv => lhs; arg 4; whnf
    apply exSs_ret
    simp only [sE_name, kRet_some, sS_ret, kR_some, d1]
  have all : exSs 60 T4 mv5 (B5.drop 0) Γ0 σ = some (.ret (.loc (σ.length + 1)), Γ6, σ ++ [.lst ((reqNames L[i]).map specKeyD)] ++ [.lst (intsD (needsF L L[i]))]) := by rw [s0, s1, s2, s3, s4, s5, s6, s7]
  unfold fn5 mkFn
  conv in (defOf _ _) => whnf
  refine runFn_of ?_ all (finish_loc (by omega) (by rw [← hlen]; exact get_last) ?_)
  · rw [hΓ0]; rfl
  · rw [List.append_assoc, List.take_left]
end
end Mine

-- SpN
namespace Mine
open PySem
set_option maxRecDepth 10000
set_option linter.unusedSimpArgs false
set_option linter.unusedVariables false

theorem map_range {α β : Type} (L : List α) (F : α → β) (z : β) : ((List.range L.length).map fun k => match L[k]? with | some r => F r | none => z) = L.map F := by
  apply List.ext_getElem
  · simp
  · intro i h1 h2
    simp only [List.length_map, List.length_range] at h1
    simp [h1]
theorem compL_rangeAll {α : Type} {f : D → Store → Option (List D × Store)} {src : D} {σ : Store} (hs : sameAt src σ σ = true) (L : List α) (F : α → D) (h : ∀ k (hk : k < L.length), f (.int (k : Int)) σ = some ([F L[k]], σ)) :
    compL src f ((List.range L.length).map fun k : Nat => D.int (k : Int)) σ = some (L.map F, σ) := by
  have := compL_mapAll (f := f) (fun k : Nat => D.int (k : Int)) (fun k => match L[k]? with | some r => F r | none => .nil) hs (List.range L.length) (fun k hk => by
    have hk' : k < L.length := List.mem_range.mp hk
    simp only [List.getElem?_eq_getElem hk']
    exact h k hk')
  rw [map_range] at this
  exact this

noncomputable abbrev B6 : List Stmt := bodyOf (Str.ofString "whole_needs")
noncomputable abbrev mv6 : List Str := [Str.ofString "found"]
noncomputable def needsD (L : List Row) : D := .lst (L.map fun r => .lst (intsD (needsF L r)))

theorem whole_spec {σ : Store} {L : List Row} {i : Nat} {nd : D} (hi : i < L.length) (hL : L.length ≤ 900) : fn6 [.lst (L.map partD), nd, .int (i : Int)] σ = some (.lst [], σ) := by
  have hidx : idx (L.map partD) ((i : Nat) : Int) = some (partD L[i]) := idx_at hi (by omega)
  unfold fn6 mkFn
  conv in (defOf _ _) => whnf
  refine runFn_of rfl (exSs_step (Γ1 := upd (upd (upd (upd noCtx (Str.ofString "parts") (.lst (L.map partD))) (Str.ofString "needs") nd) (Str.ofString "at") (.int (i : Int))) (Str.ofString "found") (.loc σ.length)) (σ1 := σ ++ [.lst []]) ?_ (exSs_step (Γ1 := upd (upd (upd (upd noCtx (Str.ofString "parts") (.lst (L.map partD))) (Str.ofString "needs") nd) (Str.ofString "at") (.int (i : Int))) (Str.ofString "found") (.loc σ.length)) (σ1 := σ ++ [.lst []]) ?_ (exSs_ret (Γ1 := upd (upd (upd (upd noCtx (Str.ofString "parts") (.lst (L.map partD))) (Str.ofString "needs") nd) (Str.ofString "at") (.int (i : Int))) (Str.ofString "found") (.loc σ.length)) (σ1 := σ ++ [.lst []]) (d := .loc σ.length) ?_))) (finish_loc (Nat.le_refl _) get_last List.take_left)
  · simp only [eEs_nil, eS_assign, sE_list, kLst_some, sF_list, sA_name, kAd_some, kAe_some, tD_name, iD_list, if_true, if_false, decide_true, Bool.and_true, Bool.or_false, Bool.false_eq_true, List.contains_cons, List.contains_nil, List.length_nil, Nat.zero_le, beq_self_eq_true, isLoc_lst, plain_nil]
  · simp only [eE_int, eO_none, sE_name, kRet_some, sE_slice, kSl1_some, kSl2_some, kSl3_some, kSl4_some, sO_some, kO_some, sS_for, kFo_none, kFo1_some, kFo3_some, kFo2_some, fz_sub, sE_subN, kSub1_some, kSub2_some, kSub3_some, upd, ofS_inj, String.reduceEq, if_true, if_false, Bool.false_eq_true, List.length_nil, Nat.zero_le, deref_tup, deref_lst, isLoc_tup, sub_lst, hidx, deref_part, slice_part4', itemsSrc, itemsOf, forL]
  · simp only [sE_name, kRet_some, sS_ret, kR_some, upd, ofS_inj, String.reduceEq, if_true, if_false]

noncomputable abbrev B8 : List Stmt := bodyOf (Str.ofString "all_needs")
theorem T7_places : T7 (Str.ofString "places_of") = some fn4 := by kernel_rfl
theorem T7_needs : T7 (Str.ofString "needs_of") = some fn5 := by kernel_rfl
theorem T7_whole : T7 (Str.ofString "whole_needs") = some fn6 := by kernel_rfl
theorem T7_len : T7 (Str.ofString "len") = none := by kernel_rfl
theorem T7_range : T7 (Str.ofString "range") = none := by kernel_rfl

theorem needsF_len {L : List Row} {r : Row} : (needsF L r).length ≤ r.names.length + 1 := Nat.le_trans len_dd (by rw [List.length_map]; exact req_len)

theorem all_needs_spec {σ : Store} {L : List Row} (g : Good L) (hL : L.length ≤ 900) (hn : ∀ r ∈ L, r.names.length ≤ 700) : fn8 [.lst (L.map partD)] σ = some (needsD L, σ) := by
  have hl : (L.map partD).length ≤ 1000 := by simp; omega
  have hl2 : (L.map fun r => D.lst (intsD (needsF L r))).length ≤ 1000 := by simp; omega
  unfold fn8 mkFn
  conv in (defOf _ _) => whnf
  obtain ⟨Γ0, hΓ0⟩ : ∃ Γ, Γ = upd noCtx (Str.ofString "parts") (.lst (L.map partD)) := ⟨_, rfl⟩
  have a1 : Γ0 (Str.ofString "parts") = some (.lst (L.map partD)) := by rw [hΓ0]; simp only [upd, if_true]
  refine runFn_of (Γ := Γ0) (d := needsD L) (Γr := upd (upd Γ0 (Str.ofString "places") (.dct (placesK 0 L))) (Str.ofString "needs") (needsD L)) (σ1 := σ) (by rw [hΓ0]; rfl) (exSs_step (Γ1 := upd Γ0 (Str.ofString "places") (.dct (placesK 0 L))) (σ1 := σ) ?_ (exSs_step (Γ1 := upd (upd Γ0 (Str.ofString "places") (.dct (placesK 0 L))) (Str.ofString "needs") (needsD L)) (σ1 := σ) ?_ (exSs_ret ?_))) ?_
  · simp only [eEs_nil, eS_assign, sE_name, kRet_some, sE_call, kC1_fn, sEs_cons, kE1_some, kE2_some, sA_name, kAe_some, tD_name, iD_call, if_false, Bool.and_false, Bool.false_eq_true, List.contains_nil, isLoc_dct, a1, T7_places, places_spec g hL]
  · simp only [eEs_nil, eS_assign, sE_name, kRet_some, sE_call, kC1_bi, kC3_some, sE_comp, kCo1_some, kCo2_some, kCo3_some, sEs_cons, kE1_some, kE2_some, sA_name, tD_name, iD_comp, upd, ofS_inj, String.reduceEq, if_false, Bool.and_false, Bool.false_eq_true, List.contains_nil, deref_int, deref_lst, deref_rng, a1, T7_len, T7_range, bi_len hl, List.length_map, bi_range, range_items' (show L.length ≤ 1000 by omega)]
    rw [compL_rangeAll sameAt_rng L (fun r => .lst (intsD (needsF L r))) (fun k hk => ?_)]
    · simp only [hl2, kCo4_some, kAe_some, if_true, if_false, Bool.false_eq_true, isLoc_lst]
      rfl
    · simp only [eEs_nil, sE_name, kRet_some, sE_call, kC1_fn, compF_app, kF1_some, kF2_some, sEs_cons, kE1_some, kE2_some, sB_nila, sG_nil, kG_some, aT_name, upd, ofS_inj, ofS_beq, String.reduceEq, String.reduceBEq, if_true, if_false, capt, List.lookup_cons, Bool.false_eq_true, beq_self_eq_true, isLoc_lst, a1, T7_needs, needs_spec g hk hL (hn _ (List.getElem_mem hk))]
  · simp only [eEs_nil, sE_name, kRet_some, sE_call, kC1_bi, kC3_some, sE_comp, kCo1_some, kCo2_some, kCo3_some, sEs_cons, kE1_some, kE2_some, sS_ret, upd, ofS_inj, String.reduceEq, if_false, deref_int, deref_lst, deref_rng, a1, T7_len, T7_range, bi_len hl, List.length_map, bi_range, range_items' (show L.length ≤ 1000 by omega)]
    rw [compL_rangeAll sameAt_rng L (fun r => .lst (intsD (needsF L r))) (fun k hk => ?_)]
    · simp only [hl2, kCo4_some, kR_some, if_true]
      rfl
    · have hidx : idx (L.map fun r => D.lst (intsD (needsF L r))) (k : Int) = some (.lst (intsD (needsF L L[k]))) := idx_at (enc := fun r => D.lst (intsD (needsF L r))) hk (by omega)
      have hsz : ((intsD (needsF L L[k])).length + 0 ≤ 1000) = True := by
        apply eq_true
        rw [intsD_len]
        have := needsF_len (L := L) (r := L[k])
        have := hn _ (List.getElem_mem hk)
        omega
      simp only [eEs_nil, sE_name, kRet_some, sE_bin, kBin1_some, kBin2_some, sE_call, kC1_fn, compF_app, kF1_some, kF2_some, sEs_cons, kE1_some, kE2_some, sB_nila, sG_nil, kG_some, aT_name, sE_subN, kSub1_some, kSub2_some, kSub3_some, upd, ofS_inj, ofS_beq, String.reduceEq, String.reduceBEq, if_true, if_false, capt, List.lookup_cons, Bool.false_eq_true, List.length_nil, beq_self_eq_true, deref_lst, isLoc_lst, bin_add_lst, sub_lst, a1, needsD, hidx, T7_whole, whole_spec hk hL, hsz, List.append_nil]
  · show some (needsD L, σ.take σ.length) = _
    rw [List.take_length]
end Mine

-- SpO
namespace Mine
open PySem
set_option maxRecDepth 10000
set_option linter.unusedSimpArgs false
set_option linter.unusedVariables false

/-! ## reached_parts -/
noncomputable def bodyAt (L : List Row) (n : Str) : List Nat := (place L n (Str.ofString "body")).toList
noncomputable def succF (L : List Row) (a : Nat) : List Nat := match L[a]? with
  | some r => needsF L r ++ bodyAt L r.name
  | none => []
noncomputable def foundK (V : List Nat) : List (Key × D) := V.map fun a : Nat => (.i (a : Int), .bool true)

theorem foundK_kinds {n : Int} : ∀ V : List Nat, kindsOk (.i n) (foundK V) = true
  | [] => rfl
  | a :: V => by
    have := foundK_kinds (n := n) V
    unfold kindsOk foundK at this ⊢
    simp only [List.map_cons, List.all_cons, this, Bool.and_true]
    rfl
theorem foundK_get {a : Nat} : ∀ V : List Nat, (assocGet (foundK V) (.i (a : Int))).isSome = decide (a ∈ V)
  | [] => rfl
  | b :: V => by
    have ih := foundK_get (a := a) V
    unfold assocGet foundK at ih ⊢
    simp only [List.map_cons, List.find?_cons]
    by_cases h : b = a
    · subst h; simp
    · have h1 : decide (Key.i (b : Int) = Key.i (a : Int)) = false := by simp only [decide_eq_false_iff_not, Key.i.injEq, Int.natCast_inj]; exact h
      rw [h1]
      simp only [ih, List.mem_cons]
      rw [Bool.eq_iff_iff]
      simp only [decide_eq_true_eq]
      exact ⟨.inr, fun q => q.elim (fun q => absurd q.symm h) id⟩
theorem cmp_in_found {σ : Store} {a : Nat} {c : D} {V : List Nat} (h : deref σ c = some (.dct (foundK V))) : cmpD σ .In (.int (a : Int)) c = some (decide (a ∈ V)) := by
  rw [cmp_in_of deref_int h]
  show (if kindsOk (.i (a : Int)) (foundK V) = true then some (assocGet (foundK V) (.i (a : Int))).isSome else none) = _
  rw [if_pos (foundK_kinds _), foundK_get]
theorem found_set {V : List Nat} {a : Nat} (h : a ∉ V) : assocSet (foundK V) (.i (a : Int)) (.bool true) = foundK (V ++ [a]) := by
  have h1 : (assocGet (foundK V) (.i (a : Int))).isSome = false := by rw [foundK_get]; simpa using h
  simp only [assocSet, h1, Bool.false_eq_true, if_false]
  simp [foundK]
theorem cmp_ne_nil_at {σ : Store} {c : D} {l : List D} (h : deref σ c = some (.lst l)) : cmpD σ .NotEq c (.lst []) = some (!l.isEmpty) := by
  have := cmp_ne_nil (σ := σ) (l := l)
  simp only [cmpD, deref_lst, Option.bind_some] at this
  simp only [cmpD, h, deref_lst, Option.bind_some, this]
theorem meth_pop {k : Nat} {l : List D} {x : D} {σ : Store} (h : σ[k]? = some (.lst (l ++ [x]))) (hl : l.length ≤ 900) : evMeth (Str.ofString "pop") (.loc k) [] σ = some (x, σ.set k (.lst l)) := by
  have : (l ++ [x]).length ≤ 1000 := by simp; omega
  simp only [evMeth, plainAll, List.all_nil, if_true, h, methS, List.getLast?_concat, this, List.dropLast_concat]
theorem meth_extend {k : Nat} {l r : List D} {σ : Store} (h : σ[k]? = some (.lst l)) (hl : l.length + r.length ≤ 1000) : evMeth (Str.ofString "extend") (.loc k) [.lst r] σ = some (.nil, σ.set k (.lst (l ++ r))) := by
  simp only [evMeth, plainAll, List.all_cons, List.all_nil, D.isLoc, Bool.not_false, Bool.and_true, if_true, h, methS, ofS_inj, String.reduceEq, if_false, hl]
theorem head_pop {l : List D} : methHead (Str.ofString "pop") (.lst l) = true := by simp only [methHead, decide_true, Bool.or_true, Bool.true_or]
theorem head_extend {l : List D} : methHead (Str.ofString "extend") (.lst l) = true := by simp only [methHead, decide_true, Bool.or_true]

noncomputable abbrev B7 : List Stmt := bodyOf (Str.ofString "reached_parts")
noncomputable abbrev mv7 : List Str := [Str.ofString "waiting", Str.ofString "found"]
noncomputable def stR (σ : Store) (W V : List Nat) : Store := σ ++ [.lst (intsD W)] ++ [.dct (foundK V)]

section
variable {σ : Store} {W V : List Nat} {L : List Row}
theorem stR_w : (stR σ W V)[σ.length]? = some (.lst (intsD W)) := get_before
theorem stR_f : (stR σ W V)[σ.length + 1]? = some (.dct (foundK V)) := by
  have : (σ ++ [D.lst (intsD W)]).length = σ.length + 1 := by simp
  unfold stR
  rw [← this]; exact get_last
theorem stR_setw {W' : List Nat} : (stR σ W V).set σ.length (.lst (intsD W')) = stR σ W' V := by
  unfold stR
  rw [List.append_assoc, List.set_append_right _ _ (Nat.le_refl _), Nat.sub_self, List.append_assoc]; rfl
theorem stR_setf {V' : List Nat} : (stR σ W V).set (σ.length + 1) (.dct (foundK V')) = stR σ W V' := by
  have : (σ ++ [D.lst (intsD W)]).length = σ.length + 1 := by simp
  unfold stR
  rw [← this]; exact set_last
theorem intsD_append {l m : List Nat} : intsD (l ++ m) = intsD l ++ intsD m := by simp [intsD]

structure PR (L : List Row) (σ : Store) (Γ : Ctx) : Prop where
  parts : Γ (Str.ofString "parts") = some (.lst (L.map partD))
  needs : Γ (Str.ofString "needs") = some (needsD L)
  places : Γ (Str.ofString "places") = some (.dct (placesK 0 L))
  waiting : Γ (Str.ofString "waiting") = some (.loc σ.length)
  found : Γ (Str.ofString "found") = some (.loc (σ.length + 1))
theorem PR.updAt {Γ : Ctx} {d : D} (p : PR L σ Γ) : PR L σ (upd Γ (Str.ofString "at") d) :=
  ⟨by simp only [upd, ofS_inj, String.reduceEq, if_false, p.parts], by simp only [upd, ofS_inj, String.reduceEq, if_false, p.needs], by simp only [upd, ofS_inj, String.reduceEq, if_false, p.places], by simp only [upd, ofS_inj, String.reduceEq, if_false, p.waiting], by simp only [upd, ofS_inj, String.reduceEq, if_false, p.found]⟩

theorem bodyAt_some {r : Row} {b : Nat} (h : place L r.name (Str.ofString "body") = some b) : bodyAt L r.name = [b] := by unfold bodyAt; rw [h]; rfl
theorem bodyAt_none {r : Row} (h : place L r.name (Str.ofString "body") = none) : bodyAt L r.name = [] := by unfold bodyAt; rw [h]; rfl

/-- what one turn of the walk does, whatever the test and body are called -/
structure TurnR (L : List Row) (σ : Store) (test : Ctx → Store → Option (Bool × Store)) (body : Ctx → Store → Res) : Prop where
  stop : ∀ Γ V, PR L σ Γ → test Γ (stR σ [] V) = some (false, stR σ [] V)
  go : ∀ Γ W V, PR L σ Γ → W ≠ [] → test Γ (stR σ W V) = some (true, stR σ W V)
  old : ∀ Γ W V a, PR L σ Γ → a ∈ V → W.length ≤ 900 → ∃ Γ', PR L σ Γ' ∧ body Γ (stR σ (W ++ [a]) V) = some (.cont, Γ', stR σ W V)
  new : ∀ Γ W V a (ha : a < L.length), PR L σ Γ → a ∉ V → V.length ≤ 900 → (W ++ succF L a).length ≤ 900 → ∃ Γ', PR L σ Γ' ∧ body Γ (stR σ (W ++ [a]) V) = some (.next, Γ', stR σ (W ++ succF L a) (V ++ [a]))

theorem turnR (hL : L.length ≤ 900) : ∃ t b p, (B7.drop 4).head! = .While t b [] p ∧ TurnR L σ (fun Γ σ => evT 54 T6 Γ t σ) (fun Γ σ => exSs 54 T6 mv7 b Γ σ) := by
  refine ⟨_, _, _, rfl, ⟨fun Γ V p => ?_, fun Γ W V p hW => ?_, fun Γ W V a p ha hW => ?_, fun Γ W V a ha p hV hVl hWl => ?_⟩⟩
  · simp only [eEs_nil, sE_name, kRet_some, sE_list, kLst_some, sT_cmp, kT1_some, kT2_some, kTB_some, if_true, decide_true, Bool.and_true, List.length_nil, Nat.zero_le, plain_nil, p.waiting, cmp_ne_nil_at (deref_locL stR_w)]
    rfl
  · have hne : (intsD W).isEmpty = false := by cases W with | nil => exact absurd rfl hW | cons => rfl
    simp only [eEs_nil, sE_name, kRet_some, sE_list, kLst_some, sT_cmp, kT1_some, kT2_some, kTB_some, if_true, decide_true, Bool.and_true, Bool.not_false, List.length_nil, Nat.zero_le, plain_nil, p.waiting, cmp_ne_nil_at (deref_locL stR_w), hne]
  · have hw : (stR σ (W ++ [a]) V)[σ.length]? = some (.lst (intsD W ++ [.int (a : Int)])) := by rw [stR_w, intsD_append]; rfl
    have hpop := meth_pop (k := σ.length) hw (by rw [intsD_len]; exact hW)
    rw [stR_setw] at hpop
    refine ⟨upd Γ (Str.ofString "at") (.int (a : Int)), p.updAt, ?_⟩
    simp only [eEs_nil, eS_assign, eS_cont, eSs_nil, sE_name, kRet_some, sE_meth, kM1_some, kM2_some, kM3_some, sT_cmp, kT1_some, kT2_some, kTB_some, sA_name, kAe_some, sS_if, kI_some, sSs_cons, kSq_next, kSq_cont, tD_name, iD_call, upd, ofS_inj, ofS_beq, String.reduceEq, String.reduceBEq, if_true, if_false, decide_true, Bool.and_false, Bool.or_false, Bool.false_eq_true, List.contains_cons, List.contains_nil, isLoc_int, p.waiting, p.found, deref_locL hw, head_pop, hpop, cmp_in_found (deref_locD stR_f), ha]
  · have hw : (stR σ (W ++ [a]) V)[σ.length]? = some (.lst (intsD W ++ [.int (a : Int)])) := by rw [stR_w, intsD_append]; rfl
    have hWl' : W.length + (needsF L L[a]).length ≤ 900 := by
      have : succF L a = needsF L L[a] ++ bodyAt L L[a].name := by unfold succF; rw [List.getElem?_eq_getElem ha]
      rw [this, List.length_append, List.length_append] at hWl
      omega
    have hpop := meth_pop (k := σ.length) hw (by rw [intsD_len]; omega)
    rw [stR_setw] at hpop
    have hfl : (foundK V).length ≤ 1000 := by simp [foundK]; omega
    have hext := meth_extend (k := σ.length) (σ := stR σ W (V ++ [a])) (l := intsD W) (r := intsD (needsF L L[a])) stR_w (by rw [intsD_len, intsD_len]; omega)
    rw [← intsD_append, stR_setw] at hext
    have hidxn : idx (L.map fun r => D.lst (intsD (needsF L r))) (a : Int) = some (.lst (intsD (needsF L L[a]))) := idx_at (enc := fun r => D.lst (intsD (needsF L r))) ha (by omega)
    have hidxp : idx (L.map partD) (a : Int) = some (partD L[a]) := idx_at ha (by omega)
    refine ⟨upd Γ (Str.ofString "at") (.int (a : Int)), p.updAt, ?_⟩
    cases hb : place L L[a].name (Str.ofString "body") with
    | none =>
      have hs : succF L a = needsF L L[a] := by unfold succF; rw [List.getElem?_eq_getElem ha]; simp only [bodyAt_none hb, List.append_nil]
      rw [hs]
      simp only [eE_int, eE_str, eE_bool, eEs_nil, eS_assign, eS_cont, eSs_nil, sE_name, kRet_some, sE_tuple, kTup_some, sE_meth, kM1_some, kM2_some, kM3_some, sEs_cons, kE1_some, kE2_some, sT_cmp, kT1_some, kT2_some, kTB_some, sA_name, kAe_some, sA_sub, kAs1_some, kAs2_some, kAs3_some, kAs4_some, sS_expr, kX_some, sS_if, kI_some, sSs_cons, kSq_next, kSq_cont, tD_name, iD_call, sE_subN, kSub1_some, kSub2_some, kSub3_some, sE_subC, sE_subT, upd, ofS_inj, ofS_beq, String.reduceEq, String.reduceBEq, if_true, if_false, decide_true, decide_false, Bool.and_true, Bool.and_false, Bool.or_false, Bool.not_false, Bool.false_eq_true, List.contains_cons, List.contains_nil, List.length_cons, List.length_nil, Nat.reduceAdd, Nat.reduceLeDiff, deref_lst, deref_dct, isLoc_int, isLoc_str, isLoc_bool, sub_lst, plain_nil, plain_cons, p.waiting, p.found, p.needs, p.parts, p.places, deref_locL hw, head_pop, hpop, cmp_in_found (deref_locD stR_f), hV, stR_f, key_int, foundK_kinds, hfl, found_set hV, stR_setf, deref_locL stR_w, head_extend, needsD, hidxn, hext, hidxp, deref_part, sub_part0, cmp_in_pair deref_dct, hb, Option.isSome_none]
    | some b =>
      have hs : succF L a = needsF L L[a] ++ [b] := by unfold succF; rw [List.getElem?_eq_getElem ha]; simp only [bodyAt_some hb]
      have happ := meth_append (k := σ.length) (σ := stR σ (W ++ needsF L L[a]) (V ++ [a])) (l := intsD (W ++ needsF L L[a])) (x := .int (b : Int)) stR_w (by rw [intsD_len, List.length_append]; omega) rfl
      have h2 : intsD (W ++ needsF L L[a]) ++ [.int (b : Int)] = intsD (W ++ (needsF L L[a] ++ [b])) := by rw [← List.append_assoc, intsD_append (l := W ++ needsF L L[a])]; rfl
      rw [h2, stR_setw] at happ
      rw [hs]
      simp only [eE_int, eE_str, eE_bool, eEs_nil, eS_assign, eS_cont, eSs_nil, sE_name, kRet_some, sE_tuple, kTup_some, sE_meth, kM1_some, kM2_some, kM3_some, sEs_cons, kE1_some, kE2_some, sT_cmp, kT1_some, kT2_some, kTB_some, sA_name, kAe_some, sA_sub, kAs1_some, kAs2_some, kAs3_some, kAs4_some, sS_expr, kX_some, sS_if, kI_some, sSs_cons, kSq_next, kSq_cont, tD_name, iD_call, sE_subN, kSub1_some, kSub2_some, kSub3_some, sE_subC, sE_subT, upd, ofS_inj, ofS_beq, String.reduceEq, String.reduceBEq, if_true, if_false, Option.map_some, decide_true, decide_false, Bool.and_true, Bool.and_false, Bool.or_false, Bool.not_false, Bool.false_eq_true, List.contains_cons, List.contains_nil, List.length_cons, List.length_nil, Nat.reduceAdd, Nat.reduceLeDiff, deref_lst, deref_dct, isLoc_int, isLoc_str, isLoc_bool, sub_lst, plain_nil, plain_cons, p.waiting, p.found, p.needs, p.parts, p.places, deref_locL hw, head_pop, hpop, cmp_in_found (deref_locD stR_f), hV, stR_f, key_int, foundK_kinds, hfl, found_set hV, stR_setf, deref_locL stR_w, head_extend, needsD, hidxn, hext, hidxp, deref_part, sub_part0, cmp_in_pair deref_dct, hb, Option.isSome_some, head_append, sub_pair, happ]
end
end Mine

-- SpP
namespace Mine
open PySem
set_option maxRecDepth 10000
set_option linter.unusedSimpArgs false
set_option linter.unusedVariables false

noncomputable def wt (f : Nat → Nat) (V : List Nat) (l : List Nat) : Nat := (l.map fun x => if x ∈ V then 0 else f x).sum
theorem wt_notin {f : Nat → Nat} {V : List Nat} {a : Nat} : ∀ {l : List Nat}, a ∉ l → wt f (V ++ [a]) l = wt f V l
  | [], _ => rfl
  | x :: l, h => by
    simp only [List.mem_cons, not_or] at h
    have ih := wt_notin (f := f) (V := V) h.2
    unfold wt at ih ⊢
    simp only [List.map_cons, List.sum_cons, ih]
    have : (x ∈ V ++ [a]) ↔ x ∈ V := by
      simp only [List.mem_append, List.mem_singleton]
      exact ⟨fun q => q.elim id fun q => absurd q.symm h.1, .inl⟩
    simp only [this]
theorem wt_step {f : Nat → Nat} {V : List Nat} {a : Nat} (hV : a ∉ V) : ∀ {l : List Nat}, l.Nodup → a ∈ l → wt f (V ++ [a]) l + f a = wt f V l
  | [], _, h => by simp at h
  | x :: l, hn, h => by
    simp only [List.nodup_cons] at hn
    rcases List.mem_cons.mp h with rfl | h
    · have h1 := wt_notin (f := f) (V := V) hn.1
      unfold wt at h1 ⊢
      simp only [List.map_cons, List.sum_cons, h1]
      simp only [List.mem_append, List.mem_singleton, or_true, if_true, hV, if_false]
      omega
    · have ih := wt_step (f := f) hV hn.2 h
      have hx : x ≠ a := by rintro rfl; exact hn.1 h
      unfold wt at ih ⊢
      simp only [List.map_cons, List.sum_cons]
      have : (x ∈ V ++ [a]) ↔ x ∈ V := by
        simp only [List.mem_append, List.mem_singleton]
        exact ⟨fun q => q.elim id fun q => absurd q hx, .inl⟩
      simp only [this]
      omega

theorem succ_lt {L : List Row} (g : Good L) {a b : Nat} (ha : a < L.length) (h : b ∈ succF L a) : b < L.length := by
  unfold succF at h
  rw [List.getElem?_eq_getElem ha] at h
  rcases List.mem_append.mp h with h | h
  · unfold needsF at h
    rw [mem_dd] at h
    obtain ⟨n, hn, rfl⟩ := List.mem_map.mp h
    obtain ⟨j, hj, _, _, _, hp⟩ := req_spec g ha hn
    unfold specAt
    rw [hp]; exact hj
  · unfold bodyAt at h
    cases hb : place L L[a].name (Str.ofString "body") with
    | none => rw [hb] at h; simp at h
    | some j =>
      rw [hb] at h
      simp at h
      subst h
      exact (place_some hb).1

theorem reach_loop {σ : Store} {L : List Row} {test : Ctx → Store → Option (Bool × Store)} {body : Ctx → Store → Res} (T : TurnR L σ test body) (g : Good L) :
    ∀ (fuel : Nat) (W V : List Nat) (Γ : Ctx), W.length + wt (fun a => (succF L a).length) V (List.range L.length) < fuel → W.length + wt (fun a => (succF L a).length) V (List.range L.length) ≤ 900 → L.length ≤ 900 → (∀ a ∈ W, a < L.length) → (∀ a ∈ V, a < L.length) → V.Nodup → PR L σ Γ →
      ∃ V' Γ', PR L σ Γ' ∧ whileL test body fuel Γ (stR σ W V) = some (.next, Γ', stR σ [] V') ∧ V'.Nodup ∧ (∀ a ∈ V', a < L.length) ∧ (∀ a ∈ W, a ∈ V') ∧ (∀ a ∈ V, a ∈ V') ∧ (∀ a ∈ V', a ∉ V → ∀ b ∈ succF L a, b ∈ V') ∧
        (∀ S : Nat → Prop, (∀ a ∈ W, S a) → (∀ a ∈ V, S a) → (∀ a, S a → ∀ b ∈ succF L a, S b) → ∀ a ∈ V', S a)
  | 0, _, _, _, h, _, _, _, _, _, _ => by omega
  | fuel + 1, W, V, Γ, h, hm, hL, hW, hV, hn, p => by
    by_cases hWe : W = []
    · subst hWe
      refine ⟨V, Γ, p, ?_, hn, hV, by simp, fun a ha => ha, fun a ha q => absurd ha q, fun S _ h2 _ => h2⟩
      simp only [whileL, T.stop Γ V p]
    · obtain ⟨W', a, rfl⟩ : ∃ W' a, W = W' ++ [a] := ⟨W.dropLast, W.getLast hWe, (List.dropLast_concat_getLast hWe).symm⟩
      have hgo := T.go Γ (W' ++ [a]) V p hWe
      have ha : a < L.length := hW a (by simp)
      have hlen : (W' ++ [a]).length = W'.length + 1 := by simp
      rw [hlen] at h hm
      by_cases hav : a ∈ V
      · obtain ⟨Γ1, p1, hb⟩ := T.old Γ W' V a p hav (by omega)
        obtain ⟨V', Γ', q1, q2, q3, q4, q5, q6, q7, q8⟩ := reach_loop T g fuel W' V Γ1 (by omega) (by omega) hL (fun b hb => hW b (by simp [hb])) hV hn p1
        refine ⟨V', Γ', q1, ?_, q3, q4, fun b hb => ?_, q6, q7, fun S s1 s2 s3 => q8 S (fun b hb => s1 b (by simp [hb])) s2 s3⟩
        · simp only [whileL, hgo, hb, q2]
        · rcases List.mem_append.mp hb with hb | hb
          · exact q5 b hb
          · simp only [List.mem_singleton] at hb; subst hb; exact q6 b hav
      · have hst := wt_step (f := fun a => (succF L a).length) hav (List.nodup_range (n := L.length)) (List.mem_range.mpr ha)
        have hVl : V.length ≤ 900 := by
          have := List.Nodup.length_le_of_subset hn (fun b hb => List.mem_range.mpr (hV b hb))
          rw [List.length_range] at this
          omega
        obtain ⟨Γ1, p1, hb⟩ := T.new Γ W' V a ha p hav hVl (by rw [List.length_append]; omega)
        obtain ⟨V', Γ', q1, q2, q3, q4, q5, q6, q7, q8⟩ := reach_loop T g fuel (W' ++ succF L a) (V ++ [a]) Γ1 (by rw [List.length_append]; omega) (by rw [List.length_append]; omega) hL
          (fun b hb => (List.mem_append.mp hb).elim (fun hb => hW b (by simp [hb])) fun hb => succ_lt g ha hb) (fun b hb => (List.mem_append.mp hb).elim (hV b) fun hb => by simp only [List.mem_singleton] at hb; subst hb; exact ha)
          (by rw [List.nodup_append]; exact ⟨hn, by simp, fun x hx y hy => by simp only [List.mem_singleton] at hy; subst hy; rintro rfl; exact hav hx⟩) p1
        refine ⟨V', Γ', q1, ?_, q3, q4, fun b hb => ?_, fun b hb => q6 b (List.mem_append_left _ hb), fun b hb hbv c hc => ?_, fun S s1 s2 s3 => q8 S (fun b hb => ?_) (fun b hb => ?_) s3⟩
        · simp only [whileL, hgo, hb, q2]
        · rcases List.mem_append.mp hb with hb | hb
          · exact q5 b (List.mem_append_left _ hb)
          · simp only [List.mem_singleton] at hb; subst hb; exact q6 b (by simp)
        · by_cases hba : b = a
          · subst hba; exact q5 c (List.mem_append_right _ hc)
          · exact q7 b hb (by simp [hbv, hba]) c hc
        · rcases List.mem_append.mp hb with hb | hb
          · exact s1 b (by simp [hb])
          · exact s3 a (s1 a (by simp)) b hb
        · rcases List.mem_append.mp hb with hb | hb
          · exact s2 b hb
          · simp only [List.mem_singleton] at hb; subst hb; exact s1 b (by simp)
end Mine

-- SpQ
namespace Mine
open PySem
set_option maxRecDepth 10000
set_option linter.unusedSimpArgs false
set_option linter.unusedVariables false

/-- the least closed set of places, as a list -/
structure Reach (L : List Row) (m : Nat) (V : List Nat) : Prop where
  lt : ∀ a ∈ V, a < L.length
  main : m ∈ V
  closed : ∀ a ∈ V, ∀ b ∈ succF L a, b ∈ V
  least : ∀ S : Nat → Prop, S m → (∀ a, S a → ∀ b ∈ succF L a, S b) → ∀ a ∈ V, S a

theorem foundK_ints : ∀ V : List Nat, intKeys (foundK V) = some (V.map fun a : Nat => (a : Int))
  | [] => rfl
  | a :: V => by
    have := foundK_ints V
    unfold foundK at this ⊢
    simp only [List.map_cons, intKeys, this, Option.map_some]
theorem range_sorted (n : Nat) (p : Nat → Bool) : (((List.range n).filter p).map fun a : Nat => (a : Int)).Pairwise (· ≤ ·) := by
  rw [List.pairwise_map]
  refine List.Pairwise.imp ?_ (List.Pairwise.filter p (List.pairwise_lt_range (n := n)))
  intro a b h
  omega
theorem sorted_found {V : List Nat} {n : Nat} (hn : V.Nodup) (hlt : ∀ a ∈ V, a < n) (hs : V.length < 64) : builtinD (Str.ofString "sorted") [.dct (foundK V)] = some (.lst (intsD ((List.range n).filter fun a => decide (a ∈ V)))) := by
  have hp : ((List.range n).filter fun a => decide (a ∈ V)).Perm V := by
    rw [List.perm_ext_iff_of_nodup (List.Pairwise.filter _ List.nodup_range) hn]
    intro a
    simp only [List.mem_filter, List.mem_range, decide_eq_true_eq]
    exact ⟨fun h => h.2, fun h => ⟨hlt a h, h⟩⟩
  have h1 : sortI (V.map fun a : Nat => (a : Int)) = ((List.range n).filter fun a => decide (a ∈ V)).map fun a : Nat => (a : Int) := sortI_unique (hp.map _) (range_sorted _ _)
  have hl : (foundK V).length < 64 := by simp [foundK]; exact hs
  simp only [builtinD, bi1, bi2, bi3, bi4, bi5, bi6, ofS_inj, String.reduceEq, if_false, if_true, hl, foundK_ints, Option.map_some, h1]
  simp [intsD]

theorem T6_places : T6 (Str.ofString "places_of") = some fn4 := by kernel_rfl
theorem T6_sorted : T6 (Str.ofString "sorted") = none := by kernel_rfl

theorem wt_le {f : Nat → Nat} {V : List Nat} {c : Nat} : ∀ (l : List Nat), (∀ a ∈ l, f a ≤ c) → wt f V l ≤ l.length * c
  | [], _ => by simp [wt]
  | x :: l, h => by
    have ih := wt_le (f := f) (V := V) l fun a ha => h a (List.mem_cons_of_mem _ ha)
    have hx := h x List.mem_cons_self
    unfold wt at ih ⊢
    simp only [List.map_cons, List.sum_cons, List.length_cons]
    rw [Nat.add_mul, Nat.one_mul]
    split <;> omega
theorem succ_len {L : List Row} {a : Nat} (hn : ∀ r ∈ L, r.names.length ≤ 7) : (succF L a).length ≤ 9 := by
  unfold succF
  cases h : L[a]? with
  | none => simp
  | some r =>
    have h1 := needsF_len (L := L) (r := r)
    have h2 := hn r (List.mem_of_getElem? h)
    simp only [List.length_append]
    have h3 : (bodyAt L r.name).length ≤ 1 := by unfold bodyAt; cases place L r.name (Str.ofString "body") <;> simp
    omega

theorem reached_spec {σ : Store} {L : List Row} {main : Str} {m : Nat} (g : Good L) (hL : L.length ≤ 7) (hn : ∀ r ∈ L, r.names.length ≤ 7) (hm : place L main (Str.ofString "spec") = some m) :
    ∃ V, Reach L m V ∧ fn7 [.lst (L.map partD), needsD L, .str main] σ = some (.lst (intsD ((List.range L.length).filter fun a => decide (a ∈ V))), σ) := by
  obtain ⟨t, b, p, hw, T⟩ := turnR (σ := σ) (L := L) (by omega)
  obtain ⟨Γ0, hΓ0⟩ : ∃ Γ, Γ = upd (upd (upd noCtx (Str.ofString "parts") (.lst (L.map partD))) (Str.ofString "needs") (needsD L)) (Str.ofString "main") (.str main) := ⟨_, rfl⟩
  have a1 : Γ0 (Str.ofString "parts") = some (.lst (L.map partD)) := by rw [hΓ0]; simp only [upd, ofS_inj, String.reduceEq, if_true, if_false]
  have a2 : Γ0 (Str.ofString "needs") = some (needsD L) := by rw [hΓ0]; simp only [upd, ofS_inj, String.reduceEq, if_true, if_false]
  have a3 : Γ0 (Str.ofString "main") = some (.str main) := by rw [hΓ0]; simp only [upd, ofS_inj, String.reduceEq, if_true, if_false]
  obtain ⟨Γ4, hΓ4⟩ : ∃ Γ, Γ = upd (upd (upd Γ0 (Str.ofString "places") (.dct (placesK 0 L))) (Str.ofString "waiting") (.loc σ.length)) (Str.ofString "found") (.loc (σ.length + 1)) := ⟨_, rfl⟩
  have pr : PR L σ Γ4 := by
    rw [hΓ4]
    exact ⟨by simp only [upd, ofS_inj, String.reduceEq, if_false, a1], by simp only [upd, ofS_inj, String.reduceEq, if_false, a2], by simp only [upd, ofS_inj, String.reduceEq, if_true, if_false], by simp only [upd, ofS_inj, String.reduceEq, if_true, if_false], by simp only [upd, ofS_inj, String.reduceEq, if_true, if_false]⟩
  have hmlt : m < L.length := (place_some hm).1
  have hwt : wt (fun a => (succF L a).length) [] (List.range L.length) ≤ L.length * 9 := by
    have := wt_le (f := fun a => (succF L a).length) (V := []) (c := 9) (List.range L.length) fun a _ => succ_len hn
    rwa [List.length_range] at this
  obtain ⟨V, Γ', q1, q2, q3, q4, q5, q6, q7, q8⟩ := reach_loop T g wfuel [m] [] Γ4 (by simp [wfuel]; omega) (by simp; omega) (by omega) (by simpa using hmlt) (by simp) (by simp) pr
  refine ⟨V, ⟨q4, q5 m (by simp), fun a ha b hb => q7 a ha (by simp) b hb, fun S s1 s2 => q8 S (by simpa using s1) (by simp) s2⟩, ?_⟩
  have hVl : V.length < 64 := by
    have := List.Nodup.length_le_of_subset q3 (fun b hb => List.mem_range.mpr (q4 b hb))
    rw [List.length_range] at this
    omega
  have s0 : exSs 60 T6 mv7 (B7.drop 0) Γ0 σ = exSs 59 T6 mv7 (B7.drop 1) (upd Γ0 (Str.ofString "places") (.dct (placesK 0 L))) σ := by
    conv => lhs; arg 4; whnf
    refine exSs_step ?_ rfl
    simp only [eEs_nil, eS_assign, sE_name, kRet_some, sE_call, kC1_fn, sEs_cons, kE1_some, kE2_some, sA_name, kAe_some, tD_name, iD_call, ofS_beq, String.reduceBEq, if_false, Bool.and_false, Bool.or_false, Bool.false_eq_true, List.contains_cons, List.contains_nil, isLoc_dct, ofS_beq, a1, T6_places, places_spec g (show L.length ≤ 900 by omega)]
  have s1 : exSs 59 T6 mv7 (B7.drop 1) (upd Γ0 (Str.ofString "places") (.dct (placesK 0 L))) σ = exSs 58 T6 mv7 (B7.drop 2) (upd Γ0 (Str.ofString "places") (.dct (placesK 0 L))) σ := by
    conv => lhs; arg 4; whnf
    refine exSs_step ?_ rfl
    simp only [eE_str, eEs_nil, eSs_nil, sE_name, kRet_some, sE_tuple, kTup_some, sEs_cons, kE1_some, kE2_some, sT_cmp, kT1_some, kT2_some, kTB_some, sS_if, kI_some, sSs_cons, upd, ofS_inj, String.reduceEq, if_true, if_false, decide_true, Bool.and_true, Bool.not_true, Bool.not_false, Bool.false_eq_true, List.length_cons, List.length_nil, Nat.reduceAdd, Nat.reduceLeDiff, isLoc_str, plain_nil, plain_cons, a3, cmp_notin_pair deref_dct, hm, Option.isSome_some]
  have s2 : exSs 58 T6 mv7 (B7.drop 2) (upd Γ0 (Str.ofString "places") (.dct (placesK 0 L))) σ = exSs 57 T6 mv7 (B7.drop 3) (upd (upd Γ0 (Str.ofString "places") (.dct (placesK 0 L))) (Str.ofString "waiting") (.loc σ.length)) (σ ++ [.lst (intsD [m])]) := by
    conv => lhs; arg 4; whnf
    refine exSs_step ?_ rfl
    simp only [eE_str, eEs_nil, eS_assign, sE_name, kRet_some, sE_tuple, kTup_some, sE_list, kLst_some, sEs_cons, kE1_some, kE2_some, sF_list, sA_name, kAd_some, kAe_some, tD_name, iD_list, kSub1_some, kSub2_some, kSub3_some, sE_subT, upd, ofS_inj, ofS_beq, String.reduceEq, String.reduceBEq, if_true, if_false, Option.map_some, decide_true, Bool.and_true, Bool.or_false, Bool.not_false, Bool.false_eq_true, List.contains_cons, List.contains_nil, List.length_cons, List.length_nil, Nat.reduceAdd, Nat.reduceLeDiff, beq_self_eq_true, deref_dct, isLoc_int, isLoc_str, isLoc_lst, plain_nil, plain_cons, ofS_beq, a3, sub_pair, hm, deref_dct]
    rfl
  have s3 : exSs 57 T6 mv7 (B7.drop 3) (upd (upd Γ0 (Str.ofString "places") (.dct (placesK 0 L))) (Str.ofString "waiting") (.loc σ.length)) (σ ++ [.lst (intsD [m])]) = exSs 56 T6 mv7 (B7.drop 4) Γ4 (stR σ [m] []) := by
    conv => lhs; arg 4; whnf
    refine exSs_step ?_ rfl
    simp only [eP_nil, eS_assign, sF_dict, kD1_some, kD2_some, sA_name, kAd_some, tD_name, iD_dict, ofS_beq, String.reduceBEq, if_true, Bool.and_true, Bool.or_true, Bool.or_false, List.contains_cons, List.contains_nil, List.length_cons, List.length_nil, Nat.reduceAdd, Nat.zero_le, beq_self_eq_true, ofS_beq, dictOfPairs, List.length_append]
    rw [hΓ4]
    rfl
  have s4 : exSs 56 T6 mv7 (B7.drop 4) Γ4 (stR σ [m] []) = exSs 55 T6 mv7 (B7.drop 5) Γ' (stR σ [] V) := by
    have h1 : B7.drop 4 = (B7.drop 4).head! :: B7.drop 5 := rfl
    rw [h1, hw]
    refine exSs_step ?_ rfl
    simp only [eS_while]
    exact q2
  have s5 : exSs 55 T6 mv7 (B7.drop 5) Γ' (stR σ [] V) = some (.ret (.lst (intsD ((List.range L.length).filter fun a => decide (a ∈ V)))), Γ', stR σ [] V) := by
    conv => lhs; arg 4; whnf
    apply exSs_ret
    simp only [eEs_nil, sE_name, kRet_some, sE_call, kC1_bi, kC3_some, sEs_cons, kE1_some, kE2_some, sS_ret, kR_some, q1.found, T6_sorted, deref_locD stR_f, sorted_found q3 q4 hVl]
  have all : exSs 60 T6 mv7 (B7.drop 0) Γ0 σ = some (.ret (.lst (intsD ((List.range L.length).filter fun a => decide (a ∈ V)))), Γ', stR σ [] V) := by rw [s0, s1, s2, s3, s4, s5]
  unfold fn7 mkFn
  conv in (defOf _ _) => whnf
  refine runFn_of ?_ all ?_
  · rw [hΓ0]; rfl
  · show some (_, (stR σ [] V).take σ.length) = _
    unfold stR
    rw [List.append_assoc, List.take_left]
end Mine

-- SpR
namespace Mine
open PySem
set_option maxRecDepth 10000
set_option linter.unusedSimpArgs false
set_option linter.unusedVariables false

/-! ## order_parts -/
noncomputable abbrev B9 : List Stmt := bodyOf (Str.ofString "order_parts")
noncomputable abbrev mv9 : List Str := [Str.ofString "done", Str.ofString "order"]
noncomputable def stO (σ : Store) (V : List Nat) (W : List Nat) : Store := σ ++ [.dct (foundK V)] ++ [.lst (intsD W)]

section
variable {σ : Store} {W V : List Nat} {L : List Row}
theorem stO_d : (stO σ V W)[σ.length]? = some (.dct (foundK V)) := get_before
theorem stO_o : (stO σ V W)[σ.length + 1]? = some (.lst (intsD W)) := by
  have : (σ ++ [D.dct (foundK V)]).length = σ.length + 1 := by simp
  unfold stO
  rw [← this]; exact get_last
theorem stO_setd {V' : List Nat} : (stO σ V W).set σ.length (.dct (foundK V')) = stO σ V' W := by
  unfold stO
  rw [List.append_assoc, List.set_append_right _ _ (Nat.le_refl _), Nat.sub_self, List.append_assoc]; rfl
theorem stO_seto {W' : List Nat} : (stO σ V W).set (σ.length + 1) (.lst (intsD W')) = stO σ V W' := by
  have : (σ ++ [D.dct (foundK V)]).length = σ.length + 1 := by simp
  unfold stO
  rw [← this]; exact set_last

structure PO (L : List Row) (σ : Store) (Lf : List Nat) (Γ : Ctx) : Prop where
  needs : Γ (Str.ofString "needs") = some (needsD L)
  left : Γ (Str.ofString "left") = some (.lst (intsD Lf))
  done : Γ (Str.ofString "done") = some (.loc σ.length)
  order : Γ (Str.ofString "order") = some (.loc (σ.length + 1))

theorem cmp_notin_found {σ : Store} {a : Nat} {c : D} {V : List Nat} (h : deref σ c = some (.dct (foundK V))) : cmpD σ .NotIn (.int (a : Int)) c = some (!decide (a ∈ V)) := by
  rw [cmp_notin_of deref_int h]
  show Option.map (!·) (if kindsOk (.i (a : Int)) (foundK V) = true then some (assocGet (foundK V) (.i (a : Int))).isSome else none) = _
  rw [if_pos (foundK_kinds _), foundK_get]; rfl

structure TurnO (L : List Row) (σ : Store) (test : Ctx → Store → Option (Bool × Store)) (body : Ctx → Store → Res) : Prop where
  stop : ∀ Γ V, PO L σ [] Γ → test Γ (stO σ V V) = some (false, stO σ V V)
  go : ∀ Γ a Lf V, PO L σ (a :: Lf) Γ → test Γ (stO σ V V) = some (true, stO σ V V)
  turn : ∀ Γ a Lf V (ha : a < L.length), PO L σ (a :: Lf) Γ → (∀ b ∈ needsF L L[a], b ∈ V) → a ∉ V → a ∉ Lf → V.length ≤ 900 → Lf.length ≤ 900 → (needsF L L[a]).length ≤ 900 → ∃ Γ', PO L σ Lf Γ' ∧ body Γ (stO σ V V) = some (.next, Γ', stO σ (V ++ [a]) (V ++ [a]))

theorem turnO (hL : L.length ≤ 900) : ∃ t b p, (B9.drop 4).head! = .While t b [] p ∧ TurnO L σ (fun Γ σ => evT 54 T8 Γ t σ) (fun Γ σ => exSs 54 T8 mv9 b Γ σ) := by
  refine ⟨_, _, _, rfl, ⟨fun Γ V p => ?_, fun Γ a Lf V p => ?_, fun Γ a Lf V ha p hneed hV hLf hVl hLl hnl => ?_⟩⟩
  · simp only [eEs_nil, sE_name, kRet_some, sE_list, kLst_some, sT_cmp, kT1_some, kT2_some, kTB_some, if_true, decide_true, Bool.and_true, List.length_nil, Nat.zero_le, cmp_ne_nil, plain_nil, p.left]
    rfl
  · simp only [eEs_nil, sE_name, kRet_some, sE_list, kLst_some, sT_cmp, kT1_some, kT2_some, kTB_some, if_true, decide_true, Bool.and_true, List.length_nil, Nat.zero_le, cmp_ne_nil, plain_nil, p.left]
    rfl
  · have hl : (intsD (a :: Lf)).length ≤ 1000 := by rw [intsD_len, List.length_cons]; omega
    have hidxn : idx (L.map fun r => D.lst (intsD (needsF L r))) (a : Int) = some (.lst (intsD (needsF L L[a]))) := idx_at (enc := fun r => D.lst (intsD (needsF L r))) ha (by omega)
    have hnn : (intsD (needsF L L[a])).length ≤ 1000 := by rw [intsD_len]; omega
    have hfl : (foundK V).length ≤ 1000 := by simp [foundK]; omega
    have happ := meth_append (k := σ.length + 1) (σ := stO σ (V ++ [a]) V) (l := intsD V) (x := .int (a : Int)) stO_o (by rw [intsD_len]; omega) rfl
    rw [show intsD V ++ [D.int (a : Int)] = intsD (V ++ [a]) from by rw [intsD_append]; rfl, stO_seto] at happ
    obtain ⟨Γ1, hΓ1⟩ : ∃ Γ1, Γ1 = upd (upd (upd Γ (Str.ofString "chosen") (.int (-1))) (Str.ofString "at") (.int (a : Int))) (Str.ofString "chosen") (.int (a : Int)) := ⟨_, rfl⟩
    have c1 : Γ1 (Str.ofString "chosen") = some (.int (a : Int)) := by rw [hΓ1]; simp only [upd, ofS_inj, String.reduceEq, if_true, if_false]
    have c2 : Γ1 (Str.ofString "needs") = some (needsD L) := by rw [hΓ1]; simp only [upd, ofS_inj, String.reduceEq, if_false, p.needs]
    have c3 : Γ1 (Str.ofString "left") = some (.lst (intsD (a :: Lf))) := by rw [hΓ1]; simp only [upd, ofS_inj, String.reduceEq, if_false, p.left]
    have c4 : Γ1 (Str.ofString "done") = some (.loc σ.length) := by rw [hΓ1]; simp only [upd, ofS_inj, String.reduceEq, if_false, p.done]
    have c5 : Γ1 (Str.ofString "order") = some (.loc (σ.length + 1)) := by rw [hΓ1]; simp only [upd, ofS_inj, String.reduceEq, if_false, p.order]
    refine ⟨upd Γ1 (Str.ofString "left") (.lst (intsD Lf)), ⟨by simp only [upd, ofS_inj, String.reduceEq, if_false, c2], by simp only [upd, if_true], by simp only [upd, ofS_inj, String.reduceEq, if_false, c4], by simp only [upd, ofS_inj, String.reduceEq, if_false, c5]⟩, ?_⟩
    refine exSs_step (Γ1 := upd Γ (Str.ofString "chosen") (.int (-1))) (σ1 := stO σ V V) ?_ (exSs_step (Γ1 := Γ1) (σ1 := stO σ V V) ?_ (exSs_step (Γ1 := Γ1) (σ1 := stO σ V V) ?_ (exSs_step (Γ1 := Γ1) (σ1 := stO σ (V ++ [a]) V) ?_ (exSs_step (Γ1 := Γ1) (σ1 := stO σ (V ++ [a]) (V ++ [a])) ?_ (exSs_step (Γ1 := upd Γ1 (Str.ofString "left") (.lst (intsD Lf))) (σ1 := stO σ (V ++ [a]) (V ++ [a])) ?_ exSs_nil)))))
    · simp only [eE_int, eS_assign, sE_neg, kNeg_some, sA_name, kAe_some, tD_name, iD_neg, ofS_beq, String.reduceBEq, if_false, Bool.and_false, Bool.or_false, Bool.false_eq_true, List.contains_cons, List.contains_nil, isLoc_int]
    · simp only [sE_name, kRet_some, sS_for, kFo_none, kFo1_some, kFo3_some, kFo2_some, fz_name, upd, ofS_inj, String.reduceEq, if_false, deref_lst, upd, ofS_inj, String.reduceEq, if_false, p.left, deref_lst, items_lst hl]
      rw [show intsD (a :: Lf) = D.int (a : Int) :: intsD Lf from rfl]
      simp only [forL, sE_name, kRet_some, sE_comp, kCo1_some, kCo2_some, kCo3_some, sT_cmp, sS_if, sSs_cons, aT_name, sE_subN, kSub1_some, kSub2_some, kSub3_some, upd, ofS_inj, String.reduceEq, if_true, if_false, deref_lst, sub_lst, p.needs, needsD, hidxn, items_lst hnn]
      rw [show intsD (needsF L L[a]) = (needsF L L[a]).map (fun k : Nat => D.int (k : Int)) from rfl]
      rw [compL_map (fun k : Nat => D.int (k : Int)) (fun k => !decide (k ∈ V)) (fun k : Nat => D.int (k : Int)) sameAt_lst (needsF L L[a]) (fun q hq => ?_)]
      · have hf : (needsF L L[a]).filter (fun k => !decide (k ∈ V)) = [] := by
          rw [List.filter_eq_nil_iff]
          intro b hb
          simp [hneed b hb]
        rw [hf]
        simp only [eEs_nil, eS_assign, eS_brk, eSs_nil, sE_name, kRet_some, sE_list, kLst_some, kCo4_some, kT1_some, kT2_some, kTB_some, sA_name, kAe_some, kI_some, sSs_cons, kSq_next, kSq_brk, tD_name, iD_name, upd, ofS_inj, ofS_beq, String.reduceEq, String.reduceBEq, if_true, if_false, decide_true, Bool.and_true, Bool.and_false, Bool.or_false, Bool.false_eq_true, List.contains_cons, List.contains_nil, List.length_nil, Nat.zero_le, List.map_nil, isLoc_int, cmp_eq_nil, plain_nil, List.isEmpty_nil]
        rw [hΓ1]
      · simp only [sE_name, kRet_some, compF_app, kF1_some, sT_cmp, kT1_some, kT2_some, kTB_some, sB_and, aT_name, upd, ofS_inj, ofS_beq, String.reduceEq, String.reduceBEq, if_true, if_false, capt, List.lookup_cons, beq_self_eq_true, p.done, cmp_notin_found (deref_locD stO_d)]
        by_cases hqv : q ∈ V <;> simp only [hqv, sE_name, kRet_some, kF2_some, sB_nila, kBa_f, kBa_t, sG_nil, kG_some, upd, ofS_inj, ofS_beq, String.reduceEq, String.reduceBEq, if_true, if_false, capt, List.lookup_cons, decide_true, decide_false, Bool.not_true, Bool.not_false, Bool.false_eq_true, beq_self_eq_true, isLoc_int]
    · have hneg : ¬ ((a : Int) < 0) := by omega
      simp only [eE_int, eSs_nil, sE_name, kRet_some, sT_cmp, kT1_some, kT2_some, kTB_some, sS_if, kI_some, sSs_cons, if_false, decide_false, Bool.false_eq_true, cmp_lt_int, c1, hneg]
    · simp only [eE_bool, eS_assign, sE_name, kRet_some, sA_sub, kAs1_some, kAs2_some, kAs3_some, kAs4_some, if_true, decide_true, Bool.and_true, Bool.not_false, isLoc_bool, c1, c4, stO_d, key_int, foundK_kinds, hfl, found_set hV, stO_setd]
    · simp only [eEs_nil, sE_name, kRet_some, sE_meth, kM1_some, kM2_some, kM3_some, sEs_cons, kE1_some, kE2_some, sS_expr, kX_some, if_true, c1, c5, deref_locL stO_o, head_append, happ]
    · simp only [eS_assign, sE_name, kRet_some, sE_comp, kCo1_some, kCo2_some, kCo3_some, sA_name, tD_name, iD_comp, ofS_beq, String.reduceBEq, if_false, Bool.and_false, Bool.or_false, Bool.false_eq_true, List.contains_cons, List.contains_nil, deref_lst, c3, items_lst hl]
      rw [show intsD (a :: Lf) = (a :: Lf).map (fun k : Nat => D.int (k : Int)) from rfl]
      rw [compL_map (fun k : Nat => D.int (k : Int)) (fun k => !decide (k = a)) (fun k : Nat => D.int (k : Int)) sameAt_lst (a :: Lf) (fun q hq => ?_)]
      · have hf : (a :: Lf).filter (fun k => !decide (k = a)) = Lf := by
          rw [List.filter_cons]
          simp only [decide_true, Bool.not_true, Bool.false_eq_true, if_false]
          rw [List.filter_eq_self]
          intro b hb
          have : b ≠ a := by rintro rfl; exact hLf hb
          simp [this]
        rw [hf]
        have hl2 : (Lf.map fun k : Nat => D.int (k : Int)).length ≤ 1000 := by simp; omega
        simp only [kCo4_some, kAe_some, if_true, if_false, Bool.false_eq_true, isLoc_lst, hl2]
        rfl
      · simp only [sE_name, kRet_some, compF_app, kF1_some, sT_cmp, kT1_some, kT2_some, kTB_some, sB_and, aT_name, upd, ofS_inj, ofS_beq, String.reduceEq, String.reduceBEq, if_true, if_false, capt, List.lookup_cons, beq_self_eq_true, cmp_ne_int, c1]
        by_cases hqa : q = a
        · subst hqa; simp only [sE_name, kRet_some, kF2_some, kBa_f, sG_nil, kG_some, upd, ofS_beq, String.reduceBEq, if_true, if_false, capt, List.lookup_cons, decide_true, Bool.not_true, Bool.false_eq_true, beq_self_eq_true, isLoc_int]
        · have hne : ¬ ((q : Int) = (a : Int)) := by omega
          simp only [hqa, hne, sE_name, kRet_some, kF2_some, sB_nila, kBa_t, sG_nil, kG_some, upd, ofS_beq, String.reduceBEq, if_true, if_false, capt, List.lookup_cons, decide_false, Bool.not_false, Bool.false_eq_true, beq_self_eq_true, isLoc_int]
end
end Mine

-- SpS
namespace Mine
open PySem
set_option maxRecDepth 10000
set_option linter.unusedSimpArgs false
set_option linter.unusedVariables false

theorem needs_lt {L : List Row} (g : Good L) {a b : Nat} (ha : a < L.length) (h : b ∈ needsF L L[a]) : b < a := by
  unfold needsF at h
  rw [mem_dd] at h
  obtain ⟨n, hn, rfl⟩ := List.mem_map.mp h
  obtain ⟨j, hj, hlt, _, _, hp⟩ := req_spec g ha hn
  unfold specAt
  rw [hp]; exact hlt

theorem order_loop {σ : Store} {L : List Row} {R : List Nat} {test : Ctx → Store → Option (Bool × Store)} {body : Ctx → Store → Res} (T : TurnO L σ test body) (g : Good L) (hL : L.length ≤ 7) (hn : ∀ r ∈ L, r.names.length ≤ 7) (hlt : ∀ a ∈ R, a < L.length) (hp : R.Pairwise (· < ·))
    (hc : ∀ a ∈ R, ∀ (ha : a < L.length), ∀ b ∈ needsF L L[a], b ∈ R) (hRl : R.length ≤ 900) :
    ∀ (Lf V : List Nat) (fuel : Nat) (Γ : Ctx), Lf.length < fuel → R = V ++ Lf → PO L σ Lf Γ → ∃ Γ', PO L σ [] Γ' ∧ whileL test body fuel Γ (stO σ V V) = some (.next, Γ', stO σ R R)
  | _, _, 0, _, h, _, _ => by omega
  | [], V, fuel + 1, Γ, _, hR, p => by
    rw [List.append_nil] at hR
    subst hR
    exact ⟨Γ, p, by simp only [whileL, T.stop Γ R p]⟩
  | a :: Lf, V, fuel + 1, Γ, h, hR, p => by
    have haR : a ∈ R := by rw [hR]; simp
    have ha := hlt a haR
    have hp' := hp
    rw [hR, List.pairwise_append] at hp'
    obtain ⟨_, hp2, hp3⟩ := hp'
    rw [List.pairwise_cons] at hp2
    have hneed : ∀ b ∈ needsF L L[a], b ∈ V := fun b hb => by
      have h1 := hc a haR ha b hb
      have h2 := needs_lt g ha hb
      rw [hR] at h1
      rcases List.mem_append.mp h1 with h1 | h1
      · exact h1
      · rcases List.mem_cons.mp h1 with rfl | h1
        · omega
        · have := hp2.1 b h1; omega
    have hV : a ∉ V := fun q => by have := hp3 a q a (by simp); omega
    have hLf : a ∉ Lf := fun q => by have := hp2.1 a q; omega
    have hlen : R.length = V.length + (Lf.length + 1) := by rw [hR, List.length_append, List.length_cons]
    have hnl : (needsF L L[a]).length ≤ 900 := by
      have := needsF_len (L := L) (r := L[a])
      have := hn _ (List.getElem_mem ha)
      omega
    obtain ⟨Γ1, p1, hb⟩ := T.turn Γ a Lf V ha p hneed hV hLf (by omega) (by omega) hnl
    obtain ⟨Γ', q1, q2⟩ := order_loop T g hL hn hlt hp hc hRl Lf (V ++ [a]) fuel Γ1 (by simp only [List.length_cons] at h; omega) (by rw [hR]; simp) p1
    refine ⟨Γ', q1, ?_⟩
    simp only [whileL, T.go Γ a Lf V p, hb, q2]

noncomputable def reachIx (L : List Row) (V : List Nat) : List Nat := (List.range L.length).filter fun a => decide (a ∈ V)
theorem T8_needs : T8 (Str.ofString "all_needs") = some fn8 := by kernel_rfl
theorem T8_reached : T8 (Str.ofString "reached_parts") = some fn7 := by kernel_rfl

theorem order_spec {σ : Store} {L : List Row} {main : Str} {m : Nat} (g : Good L) (hL : L.length ≤ 7) (hn : ∀ r ∈ L, r.names.length ≤ 7) (hm : place L main (Str.ofString "spec") = some m) :
    ∃ V, Reach L m V ∧ fn9 [.lst (L.map partD), .str main] σ = some (.lst (intsD (reachIx L V)), σ) := by
  obtain ⟨V, hV, hr⟩ := reached_spec (σ := σ) g hL hn hm
  refine ⟨V, hV, ?_⟩
  obtain ⟨t, b, p, hw, T⟩ := turnO (σ := σ) (L := L) (by omega)
  obtain ⟨Γ0, hΓ0⟩ : ∃ Γ, Γ = upd (upd noCtx (Str.ofString "parts") (.lst (L.map partD))) (Str.ofString "main") (.str main) := ⟨_, rfl⟩
  have a1 : Γ0 (Str.ofString "parts") = some (.lst (L.map partD)) := by rw [hΓ0]; simp only [upd, ofS_inj, String.reduceEq, if_true, if_false]
  have a3 : Γ0 (Str.ofString "main") = some (.str main) := by rw [hΓ0]; simp only [upd, ofS_inj, String.reduceEq, if_true, if_false]
  obtain ⟨Γ2, hΓ2⟩ : ∃ Γ, Γ = upd (upd Γ0 (Str.ofString "needs") (needsD L)) (Str.ofString "left") (.lst (intsD (reachIx L V))) := ⟨_, rfl⟩
  obtain ⟨Γ4, hΓ4⟩ : ∃ Γ, Γ = upd (upd Γ2 (Str.ofString "done") (.loc σ.length)) (Str.ofString "order") (.loc (σ.length + 1)) := ⟨_, rfl⟩
  have po : PO L σ (reachIx L V) Γ4 := by
    rw [hΓ4, hΓ2]
    exact ⟨by simp only [upd, ofS_inj, String.reduceEq, if_true, if_false], by simp only [upd, ofS_inj, String.reduceEq, if_true, if_false], by simp only [upd, ofS_inj, String.reduceEq, if_true, if_false], by simp only [upd, ofS_inj, String.reduceEq, if_true, if_false]⟩
  have hmem : ∀ a, a ∈ reachIx L V ↔ a ∈ V := fun a => by
    unfold reachIx
    simp only [List.mem_filter, List.mem_range, decide_eq_true_eq]
    exact ⟨fun h => h.2, fun h => ⟨hV.lt a h, h⟩⟩
  have hRl : (reachIx L V).length ≤ 7 := Nat.le_trans (List.length_filter_le _ _) (by rw [List.length_range]; exact hL)
  obtain ⟨Γ', q1, q2⟩ := order_loop T g hL hn (fun a ha => hV.lt a ((hmem a).mp ha)) (List.Pairwise.filter _ List.pairwise_lt_range) (fun a ha hal b hb => (hmem b).mpr (hV.closed a ((hmem a).mp ha) b (by unfold succF; rw [List.getElem?_eq_getElem hal]; exact List.mem_append_left _ hb))) (by omega)
    (reachIx L V) [] wfuel Γ4 (by simp only [wfuel]; omega) rfl po
  have s0 : exSs 60 T8 mv9 (B9.drop 0) Γ0 σ = exSs 59 T8 mv9 (B9.drop 1) (upd Γ0 (Str.ofString "needs") (needsD L)) σ := by
    conv => lhs; arg 4; whnf
    refine exSs_step ?_ rfl
    simp only [eEs_nil, eS_assign, sE_name, kRet_some, sE_call, kC1_fn, sEs_cons, kE1_some, kE2_some, sA_name, kAe_some, tD_name, iD_call, ofS_beq, String.reduceBEq, if_false, Bool.and_false, Bool.or_false, Bool.false_eq_true, List.contains_cons, List.contains_nil, ofS_beq, a1, T8_needs, all_needs_spec g (show L.length ≤ 900 by omega) (fun r hr => Nat.le_trans (hn r hr) (by decide))]
    rfl
  have s1 : exSs 59 T8 mv9 (B9.drop 1) (upd Γ0 (Str.ofString "needs") (needsD L)) σ = exSs 58 T8 mv9 (B9.drop 2) Γ2 σ := by
    conv => lhs; arg 4; whnf
    refine exSs_step ?_ rfl
    simp only [eEs_nil, eS_assign, sE_name, kRet_some, sE_call, kC1_fn, sEs_cons, kE1_some, kE2_some, sA_name, kAe_some, tD_name, iD_call, upd, ofS_inj, ofS_beq, String.reduceEq, String.reduceBEq, if_true, if_false, Bool.and_false, Bool.or_false, Bool.false_eq_true, List.contains_cons, List.contains_nil, isLoc_lst, ofS_beq, a1, a3, T8_reached, hr]
    rw [hΓ2]
    rfl
  have s2 : exSs 58 T8 mv9 (B9.drop 2) Γ2 σ = exSs 57 T8 mv9 (B9.drop 3) (upd Γ2 (Str.ofString "done") (.loc σ.length)) (σ ++ [.dct (foundK [])]) := by
    conv => lhs; arg 4; whnf
    refine exSs_step ?_ rfl
    simp only [eP_nil, eS_assign, sF_dict, kD1_some, kD2_some, sA_name, kAd_some, tD_name, iD_dict, ofS_beq, String.reduceBEq, if_true, Bool.and_true, Bool.or_false, List.contains_cons, List.contains_nil, List.length_nil, Nat.zero_le, beq_self_eq_true, ofS_beq, dictOfPairs]
    rfl
  have s3 : exSs 57 T8 mv9 (B9.drop 3) (upd Γ2 (Str.ofString "done") (.loc σ.length)) (σ ++ [.dct (foundK [])]) = exSs 56 T8 mv9 (B9.drop 4) Γ4 (stO σ [] []) := by
    conv => lhs; arg 4; whnf
    refine exSs_step ?_ rfl
    simp only [eEs_nil, eS_assign, sE_list, kLst_some, sF_list, sA_name, kAd_some, kAe_some, tD_name, iD_list, ofS_beq, String.reduceBEq, if_true, if_false, decide_true, Bool.and_true, Bool.or_true, Bool.or_false, Bool.false_eq_true, List.contains_cons, List.contains_nil, List.length_cons, List.length_nil, Nat.reduceAdd, Nat.zero_le, beq_self_eq_true, isLoc_lst, plain_nil, ofS_beq, List.length_append]
    rw [hΓ4]
    rfl
  have s4 : exSs 56 T8 mv9 (B9.drop 4) Γ4 (stO σ [] []) = exSs 55 T8 mv9 (B9.drop 5) Γ' (stO σ (reachIx L V) (reachIx L V)) := by
    have h1 : B9.drop 4 = (B9.drop 4).head! :: B9.drop 5 := rfl
    rw [h1, hw]
    refine exSs_step ?_ rfl
    simp only [eS_while]
    exact q2
  have s5 : exSs 55 T8 mv9 (B9.drop 5) Γ' (stO σ (reachIx L V) (reachIx L V)) = some (.ret (.loc (σ.length + 1)), Γ', stO σ (reachIx L V) (reachIx L V)) := by
    conv => lhs; arg 4; whnf
    apply exSs_ret
    simp only [sE_name, kRet_some, sS_ret, kR_some, q1.order]
  have all : exSs 60 T8 mv9 (B9.drop 0) Γ0 σ = some (.ret (.loc (σ.length + 1)), Γ', stO σ (reachIx L V) (reachIx L V)) := by rw [s0, s1, s2, s3, s4, s5]
  unfold fn9 mkFn
  conv in (defOf _ _) => whnf
  refine runFn_of ?_ all (finish_loc (by omega) stO_o ?_)
  · rw [hΓ0]; rfl
  · unfold stO
    rw [List.append_assoc, List.take_left]
end Mine

-- SpT
namespace Mine
open PySem
set_option maxRecDepth 10000
set_option linter.unusedSimpArgs false
set_option linter.unusedVariables false

/-- a value that stands for rows: a list, or a list of the frame around -/
structure IsRows (σ : Store) (p : D) (L : List Row) : Prop where
  d : deref σ p = some (.lst (L.map rowD))
  it : itemsSrc p (.lst (L.map rowD)) = some (L.map rowD)
  same : sameAt p σ σ = true
theorem IsRows.lst {σ : Store} {L : List Row} (h : L.length ≤ 900) : IsRows σ (.lst (L.map rowD)) L := ⟨rfl, items_lst (by simp; omega), rfl⟩
theorem IsRows.loc {σ : Store} {L : List Row} {k : Nat} (h : L.length ≤ 900) (hk : σ[k]? = some (.lst (L.map rowD))) : IsRows σ (.loc k) L := ⟨deref_locL hk, items_loc (by simp; omega), sameAt_self hk⟩

noncomputable def pick (L : List Row) (ix : List Nat) : List Row := ix.filterMap fun a => L[a]?
theorem pick_map {L : List Row} : ∀ {ix : List Nat}, (∀ a ∈ ix, a < L.length) → (ix.map fun a => match L[a]? with | some r => rowD r | none => D.nil) = (pick L ix).map rowD
  | [], _ => rfl
  | a :: ix, h => by
    have ha := h a List.mem_cons_self
    have ih := pick_map (L := L) (ix := ix) fun b hb => h b (List.mem_cons_of_mem _ hb)
    unfold pick at ih ⊢
    simp only [List.map_cons, List.filterMap_cons, List.getElem?_eq_getElem ha, ih]

noncomputable abbrev B14 : List Stmt := bodyOf (Str.ofString "_law_ordered")
theorem T13_order : T13 (Str.ofString "order_parts") = some fn9 := by kernel_rfl

theorem ordered_spec {σ : Store} {p : D} {L : List Row} {main : Str} {m : Nat} (hp : IsRows σ p L) (g : Good L) (hL : L.length ≤ 7) (hn : ∀ r ∈ L, r.names.length ≤ 7) (hm : place L main (Str.ofString "spec") = some m) :
    ∃ V, Reach L m V ∧ fn14 [p, .str main] σ = some (.lst ((pick L (reachIx L V)).map rowD), σ) := by
  obtain ⟨V, hV, ho⟩ := order_spec (σ := σ) g hL hn hm
  refine ⟨V, hV, ?_⟩
  have hRl : (reachIx L V).length ≤ 7 := Nat.le_trans (List.length_filter_le _ _) (by rw [List.length_range]; exact hL)
  have hixl : (intsD (reachIx L V)).length ≤ 1000 := by rw [intsD_len]; omega
  have hlt : ∀ a ∈ reachIx L V, a < L.length := fun a ha => List.mem_range.mp (List.mem_filter.mp ha).1
  have hpl : ((pick L (reachIx L V)).map rowD).length ≤ 1000 := by
    rw [List.length_map]
    exact Nat.le_trans (List.length_filterMap_le _ _) (by omega)
  have hpart : (L.map partD).length ≤ 1000 := by simp; omega
  obtain ⟨Γ0, hΓ0⟩ : ∃ Γ, Γ = upd (upd noCtx (Str.ofString "rows") p) (Str.ofString "main") (.str main) := ⟨_, rfl⟩
  have a1 : Γ0 (Str.ofString "rows") = some p := by rw [hΓ0]; simp only [upd, ofS_inj, String.reduceEq, if_true, if_false]
  have a2 : Γ0 (Str.ofString "main") = some (.str main) := by rw [hΓ0]; simp only [upd, ofS_inj, String.reduceEq, if_true, if_false]
  unfold fn14 mkFn
  conv in (defOf _ _) => whnf
  refine runFn_of (Γ := Γ0) (Γr := upd Γ0 (Str.ofString "parts") (.lst (L.map partD))) (d := .lst ((pick L (reachIx L V)).map rowD)) (σ1 := σ) (by rw [hΓ0]; rfl) (exSs_step (Γ1 := upd Γ0 (Str.ofString "parts") (.lst (L.map partD))) (σ1 := σ) ?_ (exSs_ret ?_)) ?_
  · simp only [eS_assign, sE_name, kRet_some, sE_comp, kCo1_some, kCo2_some, kCo3_some, sA_name, tD_name, iD_comp, if_false, Bool.and_false, Bool.false_eq_true, List.contains_nil, a1, hp.d, hp.it]
    rw [compL_mapAll rowD partD hp.same L (fun r hr => ?_)]
    · simp only [kCo4_some, kAe_some, if_true, if_false, Bool.false_eq_true, isLoc_lst, hpart]
    · by_cases hb : r.sort = .b
      · simp only [eE_int, eE_str, eEs_nil, sE_name, kRet_some, sE_tuple, kTup_some, sE_list, kLst_some, sE_if, kIfE_some, compF_app, kF1_some, kF2_some, sEs_cons, kE1_some, kE2_some, sT_cmp, kT1_some, kT2_some, kTB_some, sB_nila, sG_nil, kG_some, aT_name, kSub1_some, kSub2_some, kSub3_some, sE_subC, upd, ofS_beq, String.reduceBEq, if_true, if_false, capt, List.lookup_cons, decide_true, Bool.and_true, Bool.not_false, Bool.false_eq_true, List.length_cons, List.length_nil, Nat.reduceAdd, Nat.reduceLeDiff, Nat.zero_le, beq_self_eq_true, deref_row, isLoc_str, isLoc_tup, isLoc_lst, cmp_eq_str, sub_row0, sub_row1, sub_row2, sort_body, plain_nil, plain_cons, sort_body, hb]
        simp only [partD, kindS, hb, if_true]
      · simp only [eE_int, eE_str, eEs_nil, sE_name, kRet_some, sE_tuple, kTup_some, sE_list, kLst_some, sE_if, kIfE_some, compF_app, kF1_some, kF2_some, sEs_cons, kE1_some, kE2_some, sT_cmp, kT1_some, kT2_some, kTB_some, sB_nila, sG_nil, kG_some, aT_name, kSub1_some, kSub2_some, kSub3_some, sE_subC, upd, ofS_beq, String.reduceBEq, if_true, if_false, capt, List.lookup_cons, decide_true, decide_false, Bool.and_true, Bool.not_false, Bool.false_eq_true, List.length_cons, List.length_nil, Nat.reduceAdd, Nat.reduceLeDiff, Nat.zero_le, beq_self_eq_true, deref_row, isLoc_str, isLoc_tup, isLoc_lst, cmp_eq_str, sub_row0, sub_row1, sub_row2, sort_body, plain_nil, plain_cons, sort_body, hb]
        simp only [partD, kindS, hb, if_false]
  · simp only [eEs_nil, sE_name, kRet_some, sE_call, kC1_fn, sE_comp, kCo1_some, kCo2_some, kCo3_some, sEs_cons, kE1_some, kE2_some, sS_ret, upd, ofS_inj, String.reduceEq, if_true, if_false, deref_lst, a2, T13_order, ho, items_lst hixl]
    rw [show intsD (reachIx L V) = (reachIx L V).map (fun k : Nat => D.int (k : Int)) from rfl]
    rw [compL_mapAll (fun k : Nat => D.int (k : Int)) (fun a => match L[a]? with | some r => rowD r | none => D.nil) sameAt_lst (reachIx L V) (fun a ha => ?_), pick_map hlt]
    · simp only [kCo4_some, kR_some, if_true, hpl]
    · have hal := hlt a ha
      have hidx : idx (L.map rowD) (a : Int) = some (rowD L[a]) := idx_at hal (by omega)
      simp only [sE_name, kRet_some, compF_app, kF1_some, kF2_some, sB_nila, sG_nil, kG_some, aT_name, sE_subN, kSub1_some, kSub2_some, kSub3_some, upd, ofS_inj, ofS_beq, String.reduceEq, String.reduceBEq, if_true, if_false, capt, List.lookup_cons, Bool.false_eq_true, beq_self_eq_true, isLoc_row, sub_lst, a1, hp.d, hidx, List.getElem?_eq_getElem (hlt a ha)]
  · show some (_, σ.take σ.length) = _
    rw [List.take_length]
end Mine

-- SpU
namespace Mine
open PySem
set_option maxRecDepth 10000
set_option linter.unusedSimpArgs false
set_option linter.unusedVariables false

/-! ## _law_needed -/
noncomputable def strsD (l : List Str) : List D := l.map .str
theorem inL_strs (a : Str) : ∀ (l : List Str), inL (strsD l) (.str a) = some (decide (a ∈ l))
  | [] => rfl
  | b :: l => by
    have ih := inL_strs a l
    unfold inL strsD at ih ⊢
    simp only [List.map_cons, eEach_cons, eqD_str, Option.bind_some] at ih ⊢
    rw [Option.map_eq_some_iff] at ih
    obtain ⟨bs, h1, h2⟩ := ih
    rw [h1]
    simp only [Option.map_some, List.any_cons, id, h2, Option.some.injEq]
    rw [Bool.eq_iff_iff]
    simp only [Bool.or_eq_true, decide_eq_true_eq, List.mem_cons]
    constructor
    · rintro (h | h)
      · exact .inl h.symm
      · exact .inr h
    · rintro (h | h)
      · exact .inl h.symm
      · exact .inr h
theorem cmp_in_strs {σ : Store} {a : Str} {l : List Str} : cmpD σ .In (.str a) (.lst (strsD l)) = some (decide (a ∈ l)) := by
  exact (cmp_in_of deref_str deref_lst).trans (inL_strs a l)
theorem cmp_notin_strs {σ : Store} {a : Str} {l : List Str} : cmpD σ .NotIn (.str a) (.lst (strsD l)) = some (!decide (a ∈ l)) := by
  rw [cmp_notin_of deref_str deref_lst]; exact congrArg (Option.map (!·)) (inL_strs a l)

noncomputable def passR (W : List Str) (r : Row) : List Str := if r.name ∈ W then W ++ r.names.filter (fun n => !decide (n ∈ W)) else W

/-- closed under what rows of its names name -/
noncomputable def ClosedN (L : List Row) (S : Str → Prop) : Prop := ∀ r ∈ L, S r.name → ∀ n ∈ r.names, S n
structure InvN (L : List Row) (main : Str) (W : List Str) : Prop where
  mem : main ∈ W
  nd : W.Nodup
  sub : ∀ n ∈ W, n ∈ aheadR L
  least : ∀ S : Str → Prop, S main → ClosedN L S → ∀ n ∈ W, S n
theorem InvN.pass {L : List Row} {main : Str} {W : List Str} {r : Row} (x : InvN L main W) (hr : r ∈ L) (hnd : r.names.Nodup) (hsub : ∀ n ∈ r.names, n ∈ aheadR L) : InvN L main (passR W r) := by
  unfold passR
  split
  · rename_i hrW
    refine ⟨List.mem_append_left _ x.mem, ?_, fun n hn => ?_, fun S s1 s2 n hn => ?_⟩
    · rw [List.nodup_append]
      refine ⟨x.nd, List.Pairwise.filter _ hnd, fun a ha b hb => ?_⟩
      have := (List.mem_filter.mp hb).2
      rintro rfl
      simp [ha] at this
    · rcases List.mem_append.mp hn with hn | hn
      · exact x.sub n hn
      · exact hsub n (List.mem_filter.mp hn).1
    · rcases List.mem_append.mp hn with hn | hn
      · exact x.least S s1 s2 n hn
      · exact s2 r hr (x.least S s1 s2 _ hrW) n (List.mem_filter.mp hn).1
  · exact x
theorem passR_len {W : List Str} {r : Row} : W.length ≤ (passR W r).length := by
  unfold passR
  split
  · rw [List.length_append]; omega
  · exact Nat.le_refl _
theorem passR_same {W : List Str} {r : Row} (h : (passR W r).length = W.length) : passR W r = W ∧ (r.name ∈ W → ∀ n ∈ r.names, n ∈ W) := by
  unfold passR at h ⊢
  split at h
  · rename_i hr
    rw [if_pos hr]
    rw [List.length_append] at h
    have he : r.names.filter (fun n => !decide (n ∈ W)) = [] := List.eq_nil_of_length_eq_zero (by omega)
    refine ⟨by rw [he, List.append_nil], fun _ n hn => ?_⟩
    have := List.filter_eq_nil_iff.mp he n hn
    simpa using this
  · rename_i hr
    rw [if_neg hr]
    exact ⟨rfl, fun q => absurd q hr⟩
theorem passes_len : ∀ (M : List Row) (W : List Str), W.length ≤ (M.foldl passR W).length
  | [], _ => Nat.le_refl _
  | r :: M, W => Nat.le_trans passR_len (passes_len M (passR W r))
theorem passes_same : ∀ (M : List Row) (W : List Str), (M.foldl passR W).length = W.length → M.foldl passR W = W ∧ ∀ r ∈ M, r.name ∈ W → ∀ n ∈ r.names, n ∈ W
  | [], _, _ => ⟨rfl, fun _ h => by simp at h⟩
  | r :: M, W, h => by
    rw [List.foldl_cons] at h
    have h1 := passR_len (W := W) (r := r)
    have h2 := passes_len M (passR W r)
    obtain ⟨e1, c1⟩ := passR_same (W := W) (r := r) (by omega)
    rw [e1] at h
    obtain ⟨e2, c2⟩ := passes_same M W h
    rw [List.foldl_cons, e1]
    refine ⟨e2, fun q hq => ?_⟩
    rcases List.mem_cons.mp hq with rfl | hq
    · exact c1
    · exact c2 q hq
theorem passes_inv {L : List Row} {main : Str} (hnd : ∀ r ∈ L, r.names.Nodup) (hsub : ∀ r ∈ L, ∀ n ∈ r.names, n ∈ aheadR L) : ∀ (M : List Row) (W : List Str), (∀ r ∈ M, r ∈ L) → InvN L main W → InvN L main (M.foldl passR W)
  | [], _, _, x => x
  | r :: M, W, hM, x => passes_inv hnd hsub M (passR W r) (fun q hq => hM q (List.mem_cons_of_mem _ hq)) (x.pass (hM r List.mem_cons_self) (hnd r (hM r List.mem_cons_self)) (hsub r (hM r List.mem_cons_self)))
theorem InvN.len {L : List Row} {main : Str} {W : List Str} (x : InvN L main W) : W.length ≤ L.length := by
  refine Nat.le_trans (List.Nodup.length_le_of_subset x.nd x.sub) ?_
  unfold aheadR
  rw [List.length_map]
  exact List.length_filter_le _ _

noncomputable abbrev B13 : List Stmt := bodyOf (Str.ofString "_law_needed")
theorem T12_len : T12 (Str.ofString "len") = none := by kernel_rfl
theorem T12_range : T12 (Str.ofString "range") = none := by kernel_rfl

structure PN (p : D) (main : Str) (W : List Str) (s : Nat) (Γ : Ctx) : Prop where
  rows : Γ (Str.ofString "rows") = some p
  last : Γ (Str.ofString "last") = some (.lst [.str main])
  wanted : Γ (Str.ofString "wanted") = some (.lst (strsD W))
  size : Γ (Str.ofString "size") = some (.int (s : Int))

structure TurnN (L : List Row) (σ : Store) (p : D) (main : Str) (test : Ctx → Store → Option (Bool × Store)) (body : Ctx → Store → Res) : Prop where
  test : ∀ Γ W s, PN p main W s Γ → W.length ≤ 900 → test Γ σ = some (!decide (s = W.length), σ)
  turn : ∀ Γ W s, PN p main W s Γ → (∀ M : List Row, (∀ r ∈ M, r ∈ L) → (M.foldl passR W).length ≤ 400) → ∃ Γ', PN p main (L.foldl passR W) W.length Γ' ∧ body Γ σ = some (.next, Γ', σ)

theorem frozen_none {σ : Store} {p : D} {L : List Row} {x : Str} (hp : IsRows σ p L) : (match some p with
    | some (.loc k) => match σ[k]? with
      | some (.dct kvs) => some (x, k, kvs)
      | _ => none
    | _ => none : Option (Str × Nat × List (Key × D))) = none := by
  split
  · rename_i k hk
    simp only [Option.some.injEq] at hk
    subst hk
    have := hp.d
    simp only [deref] at this
    split
    · rename_i kvs hkv
      rw [hkv] at this
      simp at this
    · rfl
  · rfl
theorem frozen_rows {σ : Store} {p : D} {L : List Row} {Γ : Ctx} {x : Str} {q : Pos} (hp : IsRows σ p L) (h : Γ x = some p) : frozenDict Γ σ (.Name x q) = none := by
  simp only [fz_name, h]
  exact frozen_none hp

theorem turnN {σ : Store} {p : D} {L : List Row} {main : Str} (hp : IsRows σ p L) (hn : ∀ r ∈ L, r.names.length ≤ 400) : ∃ t b q, (B13.drop 2).head! = .While t b [] q ∧ TurnN L σ p main (fun Γ σ => evT 56 T12 Γ t σ) (fun Γ σ => exSs 56 T12 [] b Γ σ) := by
  refine ⟨_, _, _, rfl, ⟨fun Γ W s q hW => ?_, fun Γ W s q hM => ?_⟩⟩
  · have hl : (strsD W).length ≤ 1000 := by simp [strsD]; omega
    have hlen : (strsD W).length = W.length := by simp [strsD]
    simp only [eEs_nil, sE_name, kRet_some, sE_call, kC1_bi, kC3_some, sEs_cons, kE1_some, kE2_some, sT_cmp, kT1_some, kT2_some, kTB_some, deref_lst, cmp_ne_int, q.size, q.wanted, T12_len, bi_len hl, hlen, cmp_ne_int]
    by_cases h : s = W.length
    · subst h; simp only [decide_true, Bool.not_true]
    · have h' : ¬ ((s : Int) = (W.length : Int)) := by omega
      simp only [h, h', decide_false, Bool.not_false]
  · have hl : (strsD W).length ≤ 1000 := by have := hM [] (by simp); simp [strsD] at this ⊢; omega
    have hlen : (strsD W).length = W.length := by simp [strsD]
    have hWl : W.length ≤ 400 := hM [] (by simp)
    have hfz : frozenDict (upd Γ (Str.ofString "size") (.int (W.length : Int))) σ (.Name (Str.ofString "rows") pos0) = none := by
      simp only [fz_name, upd, ofS_inj, String.reduceEq, if_false, upd, ofS_inj, String.reduceEq, if_false, q.rows]
      exact frozen_none hp
    simp only [eEs_nil, eS_assign, sE_name, kRet_some, sE_call, kC1_bi, kC3_some, sEs_cons, kE1_some, kE2_some, sA_name, kAe_some, sS_for, sSs_cons, kSq_next, tD_name, iD_call, if_false, Bool.and_false, Bool.false_eq_true, List.contains_nil, deref_lst, isLoc_int, q.wanted, T12_len, bi_len hl, hlen]
    rw [frozen_rows hp (Γ := upd Γ (Str.ofString "size") (.int (W.length : Int))) (by simp only [upd, ofS_inj, String.reduceEq, if_false, q.rows])]
    simp only [sE_name, kRet_some, kFo_none, kFo1_some, kFo3_some, kFo2_some, upd, ofS_inj, String.reduceEq, if_false, q.rows, hp.d, hp.it]
    generalize hc : forL p _ _ _ _ _ = c
    obtain ⟨Γ', σ', ⟨q1, q2⟩, rfl⟩ := forL_list' hc (fun i Γ σ' => PN p main ((L.take i).foldl passR W) W.length Γ ∧ σ' = σ) ⟨⟨by simp only [upd, ofS_inj, String.reduceEq, if_false, q.rows], by simp only [upd, ofS_inj, String.reduceEq, if_false, q.last], by simp only [upd, ofS_inj, String.reduceEq, if_false, q.wanted]; rfl, by simp only [upd, if_true]⟩, rfl⟩ (fun i hi Γ σ' ⟨p1, p2⟩ => by
      subst p2
      generalize hWi : (L.take i).foldl passR W = Wi at p1
      have hnext : (L.take (i + 1)).foldl passR W = passR Wi L[i] := by rw [List.take_add_one, List.getElem?_eq_getElem hi, Option.toList_some, List.foldl_append, hWi]; rfl
      have hWil : Wi.length ≤ 400 := by rw [← hWi]; exact hM _ fun r hr => List.mem_of_mem_take hr
      have hnm : (L[i].names.map D.str).length ≤ 1000 := by have := hn _ (List.getElem_mem hi); simp; omega
      rw [hnext]
      obtain ⟨Γ1, hΓ1⟩ : ∃ Γ1, Γ1 = upd (upd (upd (upd Γ (Str.ofString "name") (.str L[i].name)) (Str.ofString "sort") (.str (sortS L[i].sort))) (Str.ofString "names") (.lst (L[i].names.map .str))) (Str.ofString "unit") (unitD L[i]) := ⟨_, rfl⟩
      have c1 : Γ1 (Str.ofString "name") = some (.str L[i].name) := by rw [hΓ1]; simp only [upd, ofS_inj, String.reduceEq, if_true, if_false]
      have c2 : Γ1 (Str.ofString "names") = some (.lst (L[i].names.map .str)) := by rw [hΓ1]; simp only [upd, ofS_inj, String.reduceEq, if_true, if_false]
      have c3 : Γ1 (Str.ofString "wanted") = some (.lst (strsD Wi)) := by rw [hΓ1]; simp only [upd, ofS_inj, String.reduceEq, if_false, p1.wanted]
      have c4 : Γ1 (Str.ofString "rows") = some p := by rw [hΓ1]; simp only [upd, ofS_inj, String.reduceEq, if_false, p1.rows]
      have c5 : Γ1 (Str.ofString "last") = some (.lst [.str main]) := by rw [hΓ1]; simp only [upd, ofS_inj, String.reduceEq, if_false, p1.last]
      have c6 : Γ1 (Str.ofString "size") = some (.int (W.length : Int)) := by rw [hΓ1]; simp only [upd, ofS_inj, String.reduceEq, if_false, p1.size]
      by_cases hm : L[i].name ∈ Wi
      · have hp1 : passR Wi L[i] = Wi ++ L[i].names.filter (fun n => !decide (n ∈ Wi)) := by unfold passR; rw [if_pos hm]
        refine ⟨Γ1, upd Γ1 (Str.ofString "wanted") (.lst (strsD (passR Wi L[i]))), σ', by rw [hΓ1]; rfl, .inl ?_, hp.same, ⟨by simp only [upd, ofS_inj, String.reduceEq, if_false, c4], by simp only [upd, ofS_inj, String.reduceEq, if_false, c5], by simp only [upd, if_true], by simp only [upd, ofS_inj, String.reduceEq, if_false, c6]⟩, rfl⟩
        simp only [eS_assign, eSs_nil, sE_name, kRet_some, sE_bin, kBin1_some, sE_comp, kCo1_some, kCo2_some, kCo3_some, sT_cmp, kT1_some, kT2_some, kTB_some, sA_name, sS_if, kI_some, sSs_cons, tD_name, iD_bin, if_true, if_false, decide_true, Bool.and_false, Bool.false_eq_true, List.contains_nil, deref_lst, c1, c2, c3, cmp_in_strs, hm, items_lst hnm]
        rw [compL_map D.str (fun n => !decide (n ∈ Wi)) D.str sameAt_lst L[i].names (fun n hnn => ?_)]
        · have hfl : (L[i].names.filter (fun n => !decide (n ∈ Wi))).length ≤ 400 := Nat.le_trans (List.length_filter_le _ _) (hn _ (List.getElem_mem hi))
          have hf2 : ((L[i].names.filter (fun n => !decide (n ∈ Wi))).map D.str).length ≤ 1000 := by simp only [List.length_map]; omega
          have hsum : ((strsD Wi).length + ((L[i].names.filter (fun n => !decide (n ∈ Wi))).map D.str).length ≤ 1000) = True := by
            apply eq_true
            simp only [strsD, List.length_map]
            omega
          simp only [eSs_nil, kRet_some, kBin2_some, kCo4_some, kAe_some, kSq_next, if_true, if_false, Bool.false_eq_true, isLoc_lst, bin_add_lst, hf2, hsum]
          rw [hp1]
          simp [strsD]
        · simp only [sE_name, kRet_some, compF_app, kF1_some, sT_cmp, kT1_some, kT2_some, kTB_some, sB_and, aT_name, upd, ofS_inj, ofS_beq, String.reduceEq, String.reduceBEq, if_true, if_false, capt, List.lookup_cons, beq_self_eq_true, c3, cmp_notin_strs]
          by_cases hx : n ∈ Wi <;> simp only [hx, sE_name, kRet_some, kF2_some, sB_nila, kBa_f, kBa_t, sG_nil, kG_some, upd, ofS_beq, String.reduceBEq, if_true, if_false, capt, List.lookup_cons, decide_true, decide_false, Bool.not_true, Bool.not_false, Bool.false_eq_true, beq_self_eq_true, isLoc_str]
      · have hp1 : passR Wi L[i] = Wi := by unfold passR; rw [if_neg hm]
        rw [hp1]
        refine ⟨Γ1, Γ1, σ', by rw [hΓ1]; rfl, .inl ?_, hp.same, ⟨c4, c5, c3, c6⟩, rfl⟩
        simp only [eS_assign, eSs_nil, sE_name, kRet_some, sE_bin, kBin1_some, sE_comp, sT_cmp, kT1_some, kT2_some, kTB_some, sA_name, sS_if, kI_some, sSs_cons, kSq_next, tD_name, iD_bin, if_false, decide_false, Bool.and_false, Bool.false_eq_true, List.contains_nil, c1, c3, cmp_in_strs, hm])
    rw [List.take_length] at q1
    subst q2
    exact ⟨Γ', q1, by simp only [eSs_nil, kSq_next]⟩
end Mine

-- SpV
namespace Mine
open PySem
set_option maxRecDepth 10000
set_option linter.unusedSimpArgs false
set_option linter.unusedVariables false

theorem needed_loop {σ : Store} {L : List Row} {p : D} {main : Str} {test : Ctx → Store → Option (Bool × Store)} {body : Ctx → Store → Res} (T : TurnN L σ p main test body) (hL : L.length ≤ 7) (hnd : ∀ r ∈ L, r.names.Nodup) (hsub : ∀ r ∈ L, ∀ n ∈ r.names, n ∈ aheadR L) :
    ∀ (fuel : Nat) (W : List Str) (s : Nat) (Γ : Ctx), InvN L main W → PN p main W s Γ → (s = W.length → ClosedN L (· ∈ W)) → 1 ≤ fuel → (s ≠ W.length → 9 ≤ fuel + W.length) →
      ∃ W' s' Γ', InvN L main W' ∧ ClosedN L (· ∈ W') ∧ PN p main W' s' Γ' ∧ whileL test body fuel Γ σ = some (.next, Γ', σ)
  | 0, _, _, _, _, _, _, h, _ => by omega
  | fuel + 1, W, s, Γ, x, q, hc, _, hf => by
    have hW := x.len
    have ht := T.test Γ W s q (by omega)
    by_cases hs : s = W.length
    · refine ⟨W, s, Γ, x, hc hs, q, ?_⟩
      simp only [whileL, ht, hs, decide_true, Bool.not_true]
    · have hle : ∀ M : List Row, (∀ r ∈ M, r ∈ L) → (M.foldl passR W).length ≤ 400 := fun M hM => by
        have := (passes_inv hnd hsub M W hM x).len
        omega
      obtain ⟨Γ1, q1, hb⟩ := T.turn Γ W s q hle
      have x1 := passes_inv hnd hsub L W (fun _ h => h) x
      have hl1 := passes_len L W
      obtain ⟨W', s', Γ', g1, g2, g3, g4⟩ := needed_loop T hL hnd hsub fuel (L.foldl passR W) W.length Γ1 x1 q1 (fun e => by
        obtain ⟨e1, c1⟩ := passes_same L W e.symm
        rw [e1]
        exact fun r hr => c1 r hr) (by have := hf hs; omega) (fun hne => by have := hf hs; omega)
      refine ⟨W', s', Γ', g1, g2, g3, ?_⟩
      simp only [whileL, ht, hs, decide_false, Bool.not_false, hb, g4]

theorem slice_last {l : List D} {x : D} (h : l.length ≤ 900) : sliceD (.lst (l ++ [x])) (some (-1)) none = some (.lst [x]) := by
  have hl : (l ++ [x]).length ≤ 1000 := by simp; omega
  have hn : (l ++ [x]).length = l.length + 1 := by simp
  have hl' : (l.length + 1 ≤ 1000) = True := by simp; omega
  have hneg : ((-1 : Int) < 0) = True := by simp
  have : (max (-1 + ((l.length + 1 : Nat) : Int)) 0).toNat = l.length := by omega
  simp only [sliceD, hn, hl', if_true, sliceL, loI, hiI, clampI, hneg, this, List.drop_left, Nat.add_sub_cancel_left]
  rfl

noncomputable def nameIx (L : List Row) (W : List Str) : List Nat := (List.range L.length).filter fun a => match L[a]? with | some r => decide (r.name ∈ W) | none => false

theorem needed_spec {σ : Store} {p : D} {L : List Row} {A : List Str} {main : Str} (hp : IsRows σ p L) (hL : L.length ≤ 7) (hn : ∀ r ∈ L, r.names.length ≤ 7) (hnd : ∀ r ∈ L, r.names.Nodup) (hsub : ∀ r ∈ L, ∀ n ∈ r.names, n ∈ aheadR L) (hA : aheadR L = A ++ [main]) :
    ∃ W, InvN L main W ∧ ClosedN L (· ∈ W) ∧ fn13 [p] σ = some (.tup [.lst (intsD (nameIx L W)), .str main], σ) := by
  obtain ⟨t, b, q, hw, T⟩ := turnN (main := main) hp (fun r hr => Nat.le_trans (hn r hr) (by decide))
  obtain ⟨Γ0, hΓ0⟩ : ∃ Γ, Γ = upd noCtx (Str.ofString "rows") p := ⟨_, rfl⟩
  have a1 : Γ0 (Str.ofString "rows") = some p := by rw [hΓ0]; simp only [upd, if_true]
  obtain ⟨Γ2, hΓ2⟩ : ∃ Γ, Γ = upd (upd (upd Γ0 (Str.ofString "last") (.lst [.str main])) (Str.ofString "wanted") (.lst [.str main])) (Str.ofString "size") (.int 0) := ⟨_, rfl⟩
  have pn : PN p main [main] 0 Γ2 := by
    rw [hΓ2]
    exact ⟨by simp only [upd, ofS_inj, String.reduceEq, if_false, a1], by simp only [upd, ofS_inj, String.reduceEq, if_true, if_false], by simp only [upd, ofS_inj, String.reduceEq, if_true, if_false]; rfl, by simp only [upd, ofS_inj, String.reduceEq, if_true, if_false]; rfl⟩
  have hmain : main ∈ aheadR L := by rw [hA]; simp
  have inv0 : InvN L main [main] := ⟨by simp, by simp, fun n hn => by simp only [List.mem_singleton] at hn; subst hn; exact hmain, fun S s1 _ n hn => by simp only [List.mem_singleton] at hn; subst hn; exact s1⟩
  obtain ⟨W, s', Γ', g1, g2, g3, g4⟩ := needed_loop T hL hnd hsub wfuel [main] 0 Γ2 inv0 pn (fun e => by simp at e) (by decide) (fun _ => by simp [wfuel])
  refine ⟨W, g1, g2, ?_⟩
  have hAl : (aheadR L).length ≤ 7 := by unfold aheadR; rw [List.length_map]; exact Nat.le_trans (List.length_filter_le _ _) hL
  have hal : ((aheadR L).map D.str).length ≤ 1000 := by simp; omega
  have s0 : exSs 60 T12 [] (B13.drop 0) Γ0 σ = exSs 59 T12 [] (B13.drop 1) (upd Γ0 (Str.ofString "last") (.lst [.str main])) σ := by
    conv => lhs; arg 4; whnf
    refine exSs_step ?_ rfl
    simp only [eS_assign, sE_name, kRet_some, sE_slice, sE_comp, kCo1_some, kCo2_some, kCo3_some, sA_name, tD_name, iD_sub, if_false, Bool.and_false, Bool.false_eq_true, List.contains_nil, a1, hp.d, hp.it]
    rw [compL_map rowD (fun r => !decide (r.sort = .b)) (fun r => .str r.name) hp.same L (fun r hr => ?_)]
    · rw [show (L.filter fun r => !decide (r.sort = .b)).map (fun r => D.str r.name) = (aheadR L).map D.str from by unfold aheadR; rw [List.map_map]; rfl]
      simp only [hal, eE_int, eO_none, sE_neg, kNeg_some, kSl1_some, kSl2_some, kSl3_some, kSl4_some, kCo4_some, sO_some, kO_some, if_true, deref_lst]
      rw [hA, List.map_append, List.map_cons, List.map_nil]
      have hlA : (A.map D.str).length ≤ 900 := by rw [hA, List.length_append] at hAl; rw [List.length_map]; omega
      simp only [slice_last hlA, kRet_some, kAe_some, if_false, Bool.false_eq_true, isLoc_lst]
    · simp only [eE_int, eE_str, sE_name, kRet_some, compF_app, kF1_some, sT_cmp, kT1_some, kT2_some, kTB_some, sB_and, aT_name, kSub1_some, kSub2_some, kSub3_some, sE_subC, upd, ofS_beq, String.reduceBEq, if_true, capt, List.lookup_cons, beq_self_eq_true, deref_row, cmp_ne_str, sub_row1, sort_body]
      by_cases h1 : r.sort = .b <;> simp only [h1, eE_int, sE_name, kRet_some, kF2_some, sB_nila, kBa_f, kBa_t, sG_nil, kG_some, kSub1_some, kSub2_some, kSub3_some, sE_subC, upd, ofS_beq, String.reduceBEq, if_true, if_false, capt, List.lookup_cons, decide_true, decide_false, Bool.not_true, Bool.not_false, Bool.false_eq_true, beq_self_eq_true, deref_row, isLoc_str, sub_row0]
  have s1 : exSs 59 T12 [] (B13.drop 1) (upd Γ0 (Str.ofString "last") (.lst [.str main])) σ = exSs 58 T12 [] (B13.drop 2) Γ2 σ := by
    conv => lhs; arg 4; whnf
    refine exSs_step ?_ rfl
    simp only [eE_int, eFs_nil, eS_assign, sE_name, kRet_some, kE2_some, sFs_cons, kFs3_some, sA_tt, kAt_some, kAt2_some, aN_nil, aN_cons, tD_name, iD_name, iD_const, upd, if_true, if_false, Bool.and_false, Bool.false_eq_true, List.contains_nil, isLoc_int, isLoc_lst]
    rw [hΓ2]
  have s2 : exSs 58 T12 [] (B13.drop 2) Γ2 σ = exSs 57 T12 [] (B13.drop 3) Γ' σ := by
    have h1 : B13.drop 2 = (B13.drop 2).head! :: B13.drop 3 := rfl
    rw [h1, hw]
    refine exSs_step ?_ rfl
    simp only [eS_while]
    exact g4
  have hl : (L.map rowD).length ≤ 1000 := by simp; omega
  have s3 : exSs 57 T12 [] (B13.drop 3) Γ' σ = some (.ret (.tup [.lst (intsD (nameIx L W)), .str main]), Γ', σ) := by
    conv => lhs; arg 4; whnf
    apply exSs_ret
    simp only [eEs_nil, sE_name, kRet_some, sE_tuple, sE_call, kC1_bi, kC3_some, sE_comp, kCo1_some, kCo2_some, kCo3_some, sEs_cons, kE1_some, kE2_some, sS_ret, deref_int, deref_rng, g3.rows, hp.d, T12_len, T12_range, bi_len hl, List.length_map, bi_range, range_items' (show L.length ≤ 1000 by omega)]
    rw [compL_map (fun k : Nat => D.int (k : Int)) (fun a => match L[a]? with | some r => decide (r.name ∈ W) | none => false) (fun k : Nat => D.int (k : Int)) sameAt_rng (List.range L.length) (fun k hk => ?_)]
    · have hil : (((List.range L.length).filter fun a => match L[a]? with | some r => decide (r.name ∈ W) | none => false).map fun k : Nat => D.int (k : Int)).length ≤ 1000 := by
        rw [List.length_map]
        exact Nat.le_trans (List.length_filter_le _ _) (by rw [List.length_range]; omega)
      simp only [hil, g3.last, eE_int, eEs_nil, sE_name, kRet_some, kTup_some, kCo4_some, sEs_cons, kE1_some, kE2_some, kR_some, kSub1_some, kSub2_some, kSub3_some, sE_subC, if_true, decide_true, Bool.and_true, Bool.not_false, List.length_cons, List.length_nil, Nat.reduceAdd, Nat.reduceLeDiff, deref_lst, isLoc_str, isLoc_lst, sub_lst, idx_0, plain_nil, plain_cons]
      rfl
    · have hk' : k < L.length := List.mem_range.mp hk
      have hidx : idx (L.map rowD) (k : Int) = some (rowD L[k]) := idx_at hk' (by omega)
      simp only [eE_int, sE_name, kRet_some, compF_app, kF1_some, sT_cmp, kT1_some, kT2_some, kTB_some, sB_and, aT_name, sE_subN, kSub1_some, kSub2_some, kSub3_some, sE_subC, upd, ofS_inj, ofS_beq, String.reduceEq, String.reduceBEq, if_true, if_false, capt, List.lookup_cons, beq_self_eq_true, deref_row, sub_row0, sub_lst, g3.rows, g3.wanted, hp.d, hidx, cmp_in_strs, List.getElem?_eq_getElem hk']
      by_cases hx : L[k].name ∈ W <;> simp only [hx, sE_name, kRet_some, kF2_some, sB_nila, kBa_f, kBa_t, sG_nil, kG_some, upd, ofS_beq, String.reduceBEq, if_true, if_false, capt, List.lookup_cons, decide_true, decide_false, Bool.false_eq_true, beq_self_eq_true, isLoc_int]
  have all : exSs 60 T12 [] (B13.drop 0) Γ0 σ = some (.ret (.tup [.lst (intsD (nameIx L W)), .str main]), Γ', σ) := by rw [s0, s1, s2, s3]
  unfold fn13 mkFn
  conv in (defOf _ _) => whnf
  refine runFn_of ?_ all ?_
  · rw [hΓ0]; rfl
  · show some (_, σ.take σ.length) = _
    rw [List.take_length]
end Mine

-- SpW
namespace Mine
open PySem
set_option maxRecDepth 10000
set_option linter.unusedSimpArgs false
set_option linter.unusedVariables false

/-! ## named_units, bodies_ahead -/
noncomputable abbrev B2 : List Stmt := bodyOf (Str.ofString "named_units")
noncomputable abbrev mv2 : List Str := [Str.ofString "found"]
theorem sub_node0 {n : Str} : subD (nodeD n) (.int 0) = some (.str (Str.ofString "name")) := rfl
theorem sub_node1 {n : Str} : subD (nodeD n) (.int 1) = some (.str n) := rfl
theorem deref_node {σ : Store} {n : Str} : deref σ (nodeD n) = some (nodeD n) := rfl
noncomputable def wantR (r : Row) : List Str := Str.ofString "text_io" :: r.names

theorem named_spec {σ : Store} {r : Row} (hn : r.names.length ≤ 900) : fn2 [ctxD r, .str (Str.ofString "with")] σ = some (.lst (strsD (wantR r)), σ) := by
  obtain ⟨C, hC⟩ : ∃ C : D, C = .tup [.str (Str.ofString "with"), .int 1, .lst ((wantR r).map nodeD)] := ⟨_, rfl⟩
  have hctx : ctxD r = .lst [C] := by rw [hC]; rfl
  have c0 : subD C (.int 0) = some (.str (Str.ofString "with")) := by rw [hC]; rfl
  have c2 : subD C (.int 2) = some (.lst ((wantR r).map nodeD)) := by rw [hC]; rfl
  have cd : ∀ σ, deref σ C = some C := fun σ => by rw [hC]; rfl
  have hwl : (wantR r).length ≤ 901 := by unfold wantR; rw [List.length_cons]; omega
  have hl : ((wantR r).map nodeD).length ≤ 1000 := by rw [List.length_map]; omega
  have hl2 : ((wantR r).map D.str).length ≤ 1000 := by rw [List.length_map]; omega
  rw [hctx]
  obtain ⟨Γ0, hΓ0⟩ : ∃ Γ, Γ = upd (upd noCtx (Str.ofString "context") (.lst [C])) (Str.ofString "word") (.str (Str.ofString "with")) := ⟨_, rfl⟩
  have a1 : Γ0 (Str.ofString "context") = some (.lst [C]) := by rw [hΓ0]; simp only [upd, ofS_inj, String.reduceEq, if_true, if_false]
  have a2 : Γ0 (Str.ofString "word") = some (.str (Str.ofString "with")) := by rw [hΓ0]; simp only [upd, ofS_inj, String.reduceEq, if_true, if_false]
  unfold fn2 mkFn
  conv in (defOf _ _) => whnf
  refine runFn_of (Γ := Γ0) (Γr := upd (upd Γ0 (Str.ofString "found") (.loc σ.length)) (Str.ofString "clause") C) (d := .loc σ.length) (σ1 := σ ++ [.lst (strsD (wantR r))]) (by rw [hΓ0]; rfl) (exSs_step (Γ1 := upd Γ0 (Str.ofString "found") (.loc σ.length)) (σ1 := σ ++ [.lst []]) ?_ (exSs_step (Γ1 := upd (upd Γ0 (Str.ofString "found") (.loc σ.length)) (Str.ofString "clause") C) (σ1 := σ ++ [.lst (strsD (wantR r))]) ?_ (exSs_ret ?_))) (finish_loc (Nat.le_refl _) get_last List.take_left)
  · simp only [eEs_nil, eS_assign, sE_list, kLst_some, sF_list, sA_name, kAd_some, kAe_some, tD_name, iD_list, if_true, if_false, decide_true, Bool.and_true, Bool.or_false, Bool.false_eq_true, List.contains_cons, List.contains_nil, List.length_nil, Nat.zero_le, beq_self_eq_true, isLoc_lst, plain_nil]
  · simp only [eE_int, eE_str, eT_bool, eS_aug, eSs_nil, sE_name, kRet_some, sE_comp, kCo1_some, kCo2_some, kCo3_some, sT_cmp, kT1_some, kT2_some, kTB_some, sB_nila, sB_and, kBa_t, sU_name, sS_if, kI_some, sS_for, kFo_none, kFo1_some, kFo3_some, kFo2_some, sSs_cons, aT_name, fz_name, kSub1_some, kSub2_some, kSub3_some, sE_subC, upd, ofS_inj, String.reduceEq, if_true, if_false, decide_true, deref_lst, cmp_eq_str, a1, items_lst (l := [C]) (by simp), forL, a2, c0, c2, cd, items_lst hl]
    rw [compL_map nodeD (fun _ => true) D.str sameAt_lst (wantR r) (fun n hn => ?_)]
    · rw [List.filter_eq_self.mpr (fun _ _ => rfl)]
      have hsum : (([] : List D).length + ((wantR r).map D.str).length ≤ 1000) = True := by simp; omega
      simp only [List.length_nil] at hsum
      simp only [eE_int, eE_str, eT_bool, eS_aug, eSs_nil, sE_name, kRet_some, sE_comp, kCo4_some, sT_cmp, kT1_some, kT2_some, kTB_some, sB_and, kBa_f, sU_name, kU1_some, kU2_some, kU3_some, sS_if, kI_some, sSs_cons, kSq_next, kSub1_some, kSub2_some, kSub3_some, sE_subC, upd, ofS_inj, String.reduceEq, if_true, if_false, decide_false, Bool.false_eq_true, List.length_nil, cmp_eq_str, c0, cd, hl2, get_last, List.nil_append, hsum, set_last, sameAt_lst]
      rfl
    · simp only [eE_int, eE_str, sE_name, kRet_some, compF_app, kF1_some, kF2_some, sT_cmp, kT1_some, kT2_some, kTB_some, sB_nila, sB_and, kBa_t, sG_nil, kG_some, aT_name, kSub1_some, kSub2_some, kSub3_some, sE_subC, upd, ofS_inj, ofS_beq, String.reduceEq, String.reduceBEq, if_true, if_false, capt, List.lookup_cons, decide_true, Bool.false_eq_true, beq_self_eq_true, isLoc_str, cmp_eq_str, sub_node0, sub_node1, deref_node]
  · simp only [sE_name, kRet_some, sS_ret, kR_some, upd, ofS_inj, String.reduceEq, if_true, if_false]
end Mine

-- SpX
namespace Mine
open PySem
set_option maxRecDepth 10000
set_option linter.unusedSimpArgs false
set_option linter.unusedVariables false

noncomputable def ixOf (l : List Str) (a : Str) : Nat := l.findIdx fun x => decide (x = a)
noncomputable def cntOf (l : List Str) (a : Str) : Nat := l.countP fun x => decide (x = a)
theorem eqEach_strs (a : Str) : ∀ l : List Str, eqEach (strsD l) (.str a) = some (l.map fun x => decide (x = a))
  | [] => rfl
  | b :: l => by
    have ih := eqEach_strs a l
    unfold strsD at ih ⊢
    simp only [List.map_cons, eEach_cons, eqD_int, eqD_str, Option.bind_some]
    rw [ih]
    rfl
theorem count_strs {l : List Str} {a : Str} : countD (strsD l) (.str a) = some ((cntOf l a : Nat) : Int) := by
  simp only [countD, eqEach_strs, Option.map_some, List.countP_map, cntOf]
  rfl
theorem index_strs {l : List Str} {a : Str} (h : a ∈ l) : indexD (strsD l) (.str a) = some ((ixOf l a : Nat) : Int) := by
  have hlt : l.findIdx (fun x => decide (x = a)) < l.length := List.findIdx_lt_length_of_exists ⟨a, h, by simp⟩
  have : (l.map fun x => decide (x = a)).findIdx? id = some (ixOf l a) := by
    rw [List.findIdx?_map]
    rw [List.findIdx?_eq_some_iff_getElem]
    refine ⟨hlt, ?_, fun j hj => ?_⟩
    · have := List.findIdx_getElem (w := hlt)
      show id (decide (l[l.findIdx (fun x => decide (x = a))] = a)) = true
      simpa using this
    · have := List.not_of_lt_findIdx hj
      simpa using this
  simp only [indexD, eqEach_strs, Option.bind_some, this]
theorem meth_count {σ : Store} {l : List Str} {a : Str} (h : l.length ≤ 1000) : evMeth (Str.ofString "count") (.lst (strsD l)) [.str a] σ = some (.int (cntOf l a : Nat), σ) := by
  have hl : (strsD l).length ≤ 1000 := by simpa [strsD] using h
  simp only [evMeth, plainAll, List.all_cons, List.all_nil, D.isLoc, Bool.not_false, Bool.and_true, if_true, methD, hl, count_strs, Option.map_some]
theorem meth_index {σ : Store} {l : List Str} {a : Str} (h : l.length ≤ 1000) (ha : a ∈ l) : evMeth (Str.ofString "index") (.lst (strsD l)) [.str a] σ = some (.int (ixOf l a : Nat), σ) := by
  have hl : (strsD l).length ≤ 1000 := by simpa [strsD] using h
  simp only [evMeth, plainAll, List.all_cons, List.all_nil, D.isLoc, Bool.not_false, Bool.and_true, if_true, methD, hl, ofS_inj, String.reduceEq, if_false, index_strs ha, Option.map_some]
theorem head_count {l : List D} : methHead (Str.ofString "count") (.lst l) = true := by simp only [methHead, decide_true, Bool.or_true, Bool.true_or]
theorem head_index {l : List D} : methHead (Str.ofString "index") (.lst l) = true := by simp only [methHead, decide_true, Bool.or_true, Bool.true_or]

/-- the largest -/
noncomputable def maxN : List Nat → Nat
  | [] => 0
  | x :: l => max x (maxN l)
theorem maxInt_nat : ∀ (l : List Nat) (m : Nat), (l.map fun k : Nat => (k : Int)).foldl (fun m y => if m < y then y else m) (m : Int) = ((max m (maxN l) : Nat) : Int)
  | [], m => by simp [maxN]
  | x :: l, m => by
    simp only [List.map_cons, List.foldl_cons]
    by_cases h : (m : Int) < (x : Int)
    · rw [if_pos h, maxInt_nat l x]
      simp only [maxN]
      congr 1
      omega
    · rw [if_neg h, maxInt_nat l m]
      simp only [maxN]
      congr 1
      omega
theorem intsOf_nat : ∀ l : List Nat, intsOf (intsD l) = some (l.map fun k : Nat => (k : Int))
  | [] => rfl
  | x :: l => by
    have := intsOf_nat l
    unfold intsD at this ⊢
    simp only [List.map_cons, intsOf, this, Option.map_some]
theorem bi_max {l : List Nat} (hne : l ≠ []) (h : l.length ≤ 1000) : builtinD (Str.ofString "max") [.lst (intsD l)] = some (.int (maxN l : Nat)) := by
  have hl : (intsD l).length ≤ 1000 := by rw [intsD_len]; exact h
  simp only [builtinD, bi1, bi2, bi3, bi4, bi5, bi6, ofS_inj, String.reduceEq, if_false, if_true, hl, intsOf_nat, Option.bind_some]
  cases l with
  | nil => exact absurd rfl hne
  | cons x l =>
    simp only [List.map_cons, maxInt, Option.map_some]
    rw [maxInt_nat l x]
    rfl

/-- where bodies_ahead sets a unit in -/
noncomputable def knownF (F : List Row) : List Str := F.map (·.name)
noncomputable def ixs (F : List Row) (r : Row) : List Nat := ((r.name :: wantR r).filter fun n => decide (n ∈ knownF F)).map (ixOf (knownF F))
noncomputable def isGB (F : List Row) (r : Row) : Bool := decide (cntOf (knownF F) r.name = 1) && (match F[ixOf (knownF F) r.name]? with | some q => decide (q.sort = .g) | none => false)
noncomputable def posB (F : List Row) (r : Row) : Nat := if isGB F r = true then 1 + maxN (ixs F r) else F.length
noncomputable def stepB (F : List Row) (r : Row) : List Row := F.take (posB F r) ++ [r] ++ F.drop (posB F r)
end Mine

-- SpY
namespace Mine
open PySem
set_option maxRecDepth 10000
set_option linter.unusedSimpArgs false
set_option linter.unusedVariables false

theorem slice_to {l : List D} {n : Nat} (h : n ≤ l.length) (hl : l.length ≤ 1000) : sliceD (.lst l) none (some (n : Int)) = some (.lst (l.take n)) := by
  have hneg : ((n : Int) < 0) = False := by simp
  have : min ((n : Int)).toNat l.length = n := by simp; omega
  simp only [sliceD, hl, if_true, sliceL, loI, hiI, clampI, hneg, if_false, this, List.drop_zero, Nat.sub_zero]
theorem slice_from {l : List D} {n : Nat} (h : n ≤ l.length) (hl : l.length ≤ 1000) : sliceD (.lst l) (some (n : Int)) none = some (.lst (l.drop n)) := by
  have hneg : ((n : Int) < 0) = False := by simp
  have : min ((n : Int)).toNat l.length = n := by simp; omega
  have h2 : (l.drop n).take (l.length - n) = l.drop n := List.take_of_length_le (by simp)
  simp only [sliceD, hl, if_true, sliceL, loI, hiI, clampI, hneg, if_false, this, h2]
theorem sub_unit3 {r : Row} : subD (unitD r) (.int 3) = some (itemD r) := rfl
theorem sub_unit2 {r : Row} : subD (unitD r) (.int 2) = some (ctxD r) := rfl
theorem deref_unit {σ : Store} {r : Row} : deref σ (unitD r) = some (unitD r) := rfl
theorem isLoc_unit {r : Row} : D.isLoc (unitD r) = false := rfl
theorem deref_item {σ : Store} {r : Row} : deref σ (itemD r) = some (itemD r) := by
  obtain ⟨a, n, s, ns⟩ := r
  cases s <;> rfl
noncomputable def tagS (r : Row) : Str := match r.sort with
  | .g => Str.ofString "generic"
  | .p => Str.ofString "package"
  | .b => Str.ofString "packbody"
theorem sub_item0 {r : Row} : subD (itemD r) (.int 0) = some (.str (tagS r)) := by
  obtain ⟨a, n, s, ns⟩ := r
  cases s <;> rfl
theorem tag_g {r : Row} : decide (tagS r = Str.ofString "generic") = decide (r.sort = .g) := by
  obtain ⟨a, n, s, ns⟩ := r
  cases s <;> simp [tagS, ofS_inj]
theorem T2_item : T2 (Str.ofString "item_name") = some fn1 := by kernel_rfl
theorem T2_named : T2 (Str.ofString "named_units") = some fn2 := by kernel_rfl
theorem T2_len : T2 (Str.ofString "len") = none := by kernel_rfl
theorem T2_max : T2 (Str.ofString "max") = none := by kernel_rfl
theorem item_name' {r : Row} {σ : Store} : fn1 [itemD r] σ = some (.str r.name, σ) := by rw [item_name_spec, List.take_length]

noncomputable abbrev B3 : List Stmt := bodyOf (Str.ofString "bodies_ahead")
theorem ix_lt {l : List Str} {a : Str} (h : a ∈ l) : ixOf l a < l.length := List.findIdx_lt_length_of_exists ⟨a, h, by simp⟩
theorem cnt_mem {l : List Str} {a : Str} (h : cntOf l a = 1) : a ∈ l := by
  have : 0 < cntOf l a := by omega
  unfold cntOf at this
  rw [List.countP_pos_iff] at this
  obtain ⟨x, hx, e⟩ := this
  simp only [decide_eq_true_eq] at e
  exact e ▸ hx

theorem maxN_le {c : Nat} : ∀ {l : List Nat}, (∀ x ∈ l, x ≤ c) → maxN l ≤ c
  | [], _ => Nat.zero_le _
  | x :: l, h => by
    have h1 := h x List.mem_cons_self
    have h2 := maxN_le (l := l) fun y hy => h y (List.mem_cons_of_mem _ hy)
    simp only [maxN]
    omega
theorem known_len {F : List Row} : (knownF F).length = F.length := by simp [knownF]
theorem posB_le {F : List Row} {r : Row} : posB F r ≤ F.length := by
  unfold posB
  split
  · rename_i h
    simp only [isGB, Bool.and_eq_true, decide_eq_true_eq] at h
    have hm := cnt_mem h.1
    have hpos : 0 < F.length := by
      have := ix_lt hm
      rw [known_len] at this
      omega
    have : maxN (ixs F r) ≤ F.length - 1 := maxN_le fun x hx => by
      obtain ⟨n, hn, rfl⟩ := List.mem_map.mp hx
      have h2 := (List.mem_filter.mp hn).2
      simp only [decide_eq_true_eq] at h2
      have := ix_lt h2
      rw [known_len] at this
      omega
    omega
  · exact Nat.le_refl _

theorem stepB_len {F : List Row} {r : Row} : (stepB F r).length = F.length + 1 := by
  have := posB_le (F := F) (r := r)
  unfold stepB
  simp only [List.length_append, List.length_take, List.length_cons, List.length_nil, List.length_drop]
  omega
theorem stepB_mem {F : List Row} {r q : Row} (h : q ∈ stepB F r) : q ∈ F ∨ q = r := by
  unfold stepB at h
  simp only [List.mem_append, List.mem_singleton] at h
  rcases h with (h | h) | h
  · exact .inl (List.mem_of_mem_take h)
  · exact .inr h
  · exact .inl (List.mem_of_mem_drop h)

theorem bodies_spec {σ : Store} {R : List Row} (hR : R.length ≤ 7) (hn : ∀ r ∈ R, r.names.length ≤ 7) : fn3 [.lst (R.map unitD)] σ = some (.lst ((R.foldl stepB []).map unitD), σ) := by
  have hRl : (R.map unitD).length ≤ 1000 := by simp; omega
  obtain ⟨Γ0, hΓ0⟩ : ∃ Γ, Γ = upd noCtx (Str.ofString "units") (.lst (R.map unitD)) := ⟨_, rfl⟩
  have a1 : Γ0 (Str.ofString "units") = some (.lst (R.map unitD)) := by rw [hΓ0]; simp only [upd, if_true]
  have s0 : exSs 60 T2 [] (B3.drop 0) Γ0 σ = exSs 59 T2 [] (B3.drop 1) (upd Γ0 (Str.ofString "found") (.lst [])) σ := by
    conv => lhs; arg 4; whnf
    refine exSs_step ?_ rfl
    simp only [eEs_nil, eS_assign, sE_list, kLst_some, sF_list, sA_name, kAd_some, kAe_some, tD_name, iD_list, if_true, if_false, decide_true, Bool.and_true, Bool.false_eq_true, List.contains_nil, List.length_nil, Nat.zero_le, isLoc_lst, plain_nil]
  have key : ∃ Γ', Γ' (Str.ofString "found") = some (.lst ((R.foldl stepB []).map unitD)) ∧ exS 58 T2 [] (B3.drop 1).head! (upd Γ0 (Str.ofString "found") (.lst [])) σ = some (.next, Γ', σ) := by
    conv in (List.head! _) => whnf
    simp only [sE_name, kRet_some, sS_for, kFo_none, kFo1_some, kFo3_some, kFo2_some, fz_name, upd, ofS_inj, String.reduceEq, if_false, deref_lst, upd, ofS_inj, String.reduceEq, if_false, a1, deref_lst, items_lst hRl]
    generalize hc : forL (D.lst (R.map unitD)) _ _ _ _ _ = c
    obtain ⟨Γ', σ', ⟨q1, _, q2⟩, rfl⟩ := forL_list' hc (fun i Γ σ' => Γ (Str.ofString "found") = some (.lst (((R.take i).foldl stepB []).map unitD)) ∧ ((R.take i).foldl stepB []).length = i ∧ σ' = σ) ⟨by simp [upd], rfl, rfl⟩ (fun i hi Γ σ' ⟨p1, p2, p3⟩ => by
      subst p3
      generalize hF : (R.take i).foldl stepB [] = F at p1 p2
      have hnext : (R.take (i + 1)).foldl stepB [] = stepB F R[i] := by rw [List.take_add_one, List.getElem?_eq_getElem hi, Option.toList_some, List.foldl_append, hF]; rfl
      rw [hnext]
      have hFl : F.length ≤ 7 := by omega
      have hfd : (F.map unitD).length ≤ 1000 := by simp; omega
      have hkl : (knownF F).length ≤ 1000 := by rw [known_len]; omega
      have hks : (strsD (knownF F)).length ≤ 1000 := by simp [strsD, known_len]; omega
      generalize hr : R[i] = r
      have hrn : r.names.length ≤ 7 := by rw [← hr]; exact hn _ (List.getElem_mem hi)
      obtain ⟨g3, hg3⟩ : ∃ g, g = upd (upd (upd (upd Γ (Str.ofString "unit") (unitD r)) (Str.ofString "name") (.str r.name)) (Str.ofString "known") (.lst (strsD (knownF F)))) (Str.ofString "at") (.int (F.length : Int)) := ⟨_, rfl⟩
      have c1 : g3 (Str.ofString "name") = some (.str r.name) := by rw [hg3]; simp only [upd, ofS_inj, String.reduceEq, if_true, if_false]
      have c2 : g3 (Str.ofString "known") = some (.lst (strsD (knownF F))) := by rw [hg3]; simp only [upd, ofS_inj, String.reduceEq, if_true, if_false]
      have c3 : g3 (Str.ofString "found") = some (.lst (F.map unitD)) := by rw [hg3]; simp only [upd, ofS_inj, String.reduceEq, if_false, p1]
      have c4 : g3 (Str.ofString "unit") = some (unitD r) := by rw [hg3]; simp only [upd, ofS_inj, String.reduceEq, if_true, if_false]
      have c5 : g3 (Str.ofString "at") = some (.int (F.length : Int)) := by rw [hg3]; simp only [upd, ofS_inj, String.reduceEq, if_true, if_false]
      obtain ⟨g4, d1, d2, d3, d4⟩ : ∃ g4, g4 (Str.ofString "found") = some (.lst (F.map unitD)) ∧ g4 (Str.ofString "unit") = some (unitD r) ∧ g4 (Str.ofString "at") = some (.int ((posB F r : Nat) : Int)) ∧
          ∀ (x : Unit), exS 54 T2 [] (match (B3.drop 1).head! with | .For _ _ b _ _ => (b.drop 3).head! | _ => .Pass pos0) g3 σ' = some (.next, g4, σ') := by
        by_cases hcnt : cntOf (knownF F) r.name = 1
        · have hm := cnt_mem hcnt
          have hix : ixOf (knownF F) r.name < F.length := by have := ix_lt hm; rwa [known_len] at this
          have hidx : idx (F.map unitD) ((ixOf (knownF F) r.name : Nat) : Int) = some (unitD F[ixOf (knownF F) r.name]) := idx_at hix (by omega)
          have hc1 : ((cntOf (knownF F) r.name : Nat) : Int) = 1 := by omega
          by_cases hg : F[ixOf (knownF F) r.name].sort = .g
          · have hgb : isGB F r = true := by
              unfold isGB
              rw [List.getElem?_eq_getElem hix]
              simp [hcnt, hg]
            have hpos : posB F r = 1 + maxN (ixs F r) := by unfold posB; rw [if_pos hgb]
            have hwl : (r.name :: wantR r).length ≤ 9 := by simp only [List.length_cons, wantR]; omega
            have hwsum : (1 + (strsD (wantR r)).length ≤ 1000) = True := by
              apply eq_true
              simp only [List.length_cons] at hwl
              simp only [strsD, List.length_map]
              omega
            have hws : (strsD (r.name :: wantR r)).length ≤ 1000 := by simp only [strsD, List.length_map]; omega
            have hixl : (ixs F r).length ≤ 1000 := by
              unfold ixs
              rw [List.length_map]
              exact Nat.le_trans (List.length_filter_le _ _) (by omega)
            have hixn : ixs F r ≠ [] := by
              unfold ixs
              rw [List.filter_cons, if_pos (by simpa using hm)]
              simp
            refine ⟨upd (upd g3 (Str.ofString "wanted") (.lst (strsD (r.name :: wantR r)))) (Str.ofString "at") (.int ((posB F r : Nat) : Int)), by simp only [upd, ofS_inj, String.reduceEq, if_false, c3], by simp only [upd, ofS_inj, String.reduceEq, if_false, c4], by simp only [upd, ofS_inj, String.reduceEq, if_true, if_false], fun _ => ?_⟩
            conv => lhs; arg 4; whnf
            simp only [eE_int, eE_str, eEs_nil, eT_bool, eS_assign, eSs_nil, sE_name, kRet_some, sE_list, kLst_some, sE_bin, kBin1_some, kBin2_some, sE_meth, kM1_some, kM2_some, kM3_some, sE_call, kC1_fn, sEs_cons, kE1_some, kE2_some, sT_cmp, kT1_some, kT2_some, kTB_some, sB_nila, sB_and, kBa_t, sA_name, sS_if, kI_some, sSs_cons, tD_name, iD_bin, kSub1_some, kSub2_some, kSub3_some, sE_subC, sE_subK, if_true, if_false, decide_true, Bool.and_true, Bool.and_false, Bool.not_false, Bool.false_eq_true, List.contains_nil, List.length_cons, List.length_nil, Nat.reduceAdd, Nat.reduceLeDiff, deref_lst, isLoc_str, cmp_eq_int, cmp_eq_str, bin_add_lst, sub_lst, plain_nil, plain_cons, c1, c2, c3, c4, head_count, head_index, meth_count hkl, meth_index hkl hm, hc1, hidx, deref_unit, sub_unit3, deref_item, sub_item0, tag_g, hg, sub_unit2, T2_named, named_spec (show r.names.length ≤ 900 by omega)]
            have hcons : [D.str r.name] ++ strsD (wantR r) = strsD (r.name :: wantR r) := rfl
            simp only [hwsum, hcons, items_lst hws, eE_int, eS_assign, sE_name, kRet_some, sE_bin, kBin1_some, sE_call, sE_comp, kCo1_some, kCo2_some, kCo3_some, sEs_cons, sA_name, kAe_some, sSs_cons, kSq_next, tD_name, iD_bin, upd, if_true, if_false, Bool.and_false, Bool.false_eq_true, List.contains_nil, deref_lst, isLoc_lst]
            rw [show strsD (r.name :: wantR r) = (r.name :: wantR r).map D.str from rfl] at *
            rw [compL_map D.str (fun n => decide (n ∈ knownF F)) (fun n => D.int ((ixOf (knownF F) n : Nat) : Int)) sameAt_lst (r.name :: wantR r) (fun n hnn => ?_)]
            · have hmap : ((r.name :: wantR r).filter (fun n => decide (n ∈ knownF F))).map (fun n => D.int ((ixOf (knownF F) n : Nat) : Int)) = intsD (ixs F r) := by
                unfold intsD ixs
                rw [List.map_map]
                rfl
              have hil : (intsD (ixs F r)).length ≤ 1000 := by rw [intsD_len]; exact hixl
              rw [hmap]
              simp only [eEs_nil, eSs_nil, kRet_some, kBin2_some, kC1_bi, kC3_some, kCo4_some, kE1_some, kE2_some, kAe_some, kSq_next, if_true, if_false, Bool.false_eq_true, List.map_cons, deref_lst, isLoc_int, bin_add_int, hil, T2_max, bi_max hixn hixl]
              rw [hpos]
              simp only [Int.natCast_add, Int.natCast_one]
            · by_cases hx : n ∈ knownF F
              · simp only [eEs_nil, sE_name, kRet_some, sE_meth, kM1_some, kM2_some, kM3_some, compF_app, kF1_some, kF2_some, sEs_cons, kE1_some, kE2_some, sT_cmp, kT1_some, kT2_some, kTB_some, sB_nila, sB_and, kBa_t, sG_nil, kG_some, aT_name, upd, ofS_inj, ofS_beq, String.reduceEq, String.reduceBEq, if_true, if_false, capt, List.lookup_cons, decide_true, Bool.false_eq_true, List.map_cons, beq_self_eq_true, deref_lst, isLoc_int, c2, cmp_in_strs, hx, head_index, meth_index hkl hx]
              · simp only [eEs_nil, sE_name, kRet_some, sE_meth, kM1_some, kM2_some, kM3_some, compF_app, kF1_some, kF2_some, sEs_cons, kE1_some, kE2_some, sT_cmp, kT1_some, kT2_some, kTB_some, sB_and, kBa_f, sG_nil, aT_name, upd, ofS_inj, ofS_beq, String.reduceEq, String.reduceBEq, if_true, if_false, capt, List.lookup_cons, decide_false, Bool.false_eq_true, List.map_cons, beq_self_eq_true, deref_lst, c2, cmp_in_strs, hx]
          · have hgb : isGB F r = false := by
              unfold isGB
              rw [List.getElem?_eq_getElem hix]
              simp [hg]
            have hpos : posB F r = F.length := by unfold posB; rw [hgb]; rfl
            rw [hpos]
            refine ⟨g3, c3, c4, c5, fun _ => ?_⟩
            conv => lhs; arg 4; whnf
            simp only [eE_int, eE_str, eEs_nil, eT_bool, eS_assign, eSs_nil, sE_name, kRet_some, sE_list, kLst_some, sE_bin, kBin1_some, sE_meth, kM1_some, kM2_some, kM3_some, sE_call, sEs_cons, kE1_some, kE2_some, sT_cmp, kT1_some, kT2_some, kTB_some, sB_and, kBa_f, kBa_t, sA_name, sS_if, kI_some, sSs_cons, tD_name, iD_bin, kSub1_some, kSub2_some, kSub3_some, sE_subC, sE_subK, if_true, if_false, decide_true, decide_false, Bool.and_true, Bool.and_false, Bool.not_false, Bool.false_eq_true, List.contains_nil, List.length_cons, List.length_nil, Nat.reduceAdd, Nat.reduceLeDiff, deref_lst, isLoc_str, cmp_eq_int, cmp_eq_str, sub_lst, plain_nil, plain_cons, c1, c2, c3, head_count, head_index, meth_count hkl, meth_index hkl hm, hc1, hidx, deref_unit, sub_unit3, deref_item, sub_item0, tag_g, hg]
        · have hgb : isGB F r = false := by unfold isGB; simp [hcnt]
          have hpos : posB F r = F.length := by unfold posB; rw [hgb]; rfl
          have hc1 : ¬ (((cntOf (knownF F) r.name : Nat) : Int) = 1) := by omega
          rw [hpos]
          refine ⟨g3, c3, c4, c5, fun _ => ?_⟩
          conv => lhs; arg 4; whnf
          simp only [eE_int, eEs_nil, eT_bool, eS_assign, eSs_nil, sE_name, kRet_some, sE_list, kLst_some, sE_bin, kBin1_some, sE_meth, kM1_some, kM2_some, kM3_some, sE_call, sEs_cons, kE1_some, kE2_some, sT_cmp, kT1_some, kT2_some, kTB_some, sB_and, kBa_f, sA_name, sS_if, kI_some, sSs_cons, tD_name, iD_bin, sE_subC, if_true, if_false, decide_true, decide_false, Bool.and_true, Bool.and_false, Bool.not_false, Bool.false_eq_true, List.contains_nil, List.length_cons, List.length_nil, Nat.reduceAdd, Nat.reduceLeDiff, deref_lst, isLoc_str, cmp_eq_int, plain_nil, plain_cons, c1, c2, head_count, meth_count hkl, hc1]
      refine ⟨_, upd g4 (Str.ofString "found") (.lst ((stepB F r).map unitD)), σ', rfl, .inl ?_, sameAt_lst, ⟨by simp only [upd, if_true], stepB_len.trans (by rw [p2]), rfl⟩⟩
      refine exSs_step (Γ1 := upd (upd Γ (Str.ofString "unit") (unitD r)) (Str.ofString "name") (.str r.name)) (σ1 := σ') ?_ (exSs_step (Γ1 := upd (upd (upd Γ (Str.ofString "unit") (unitD r)) (Str.ofString "name") (.str r.name)) (Str.ofString "known") (.lst (strsD (knownF F)))) (σ1 := σ') ?_ (exSs_step (Γ1 := g3) (σ1 := σ') ?_ (exSs_step (Γ1 := g4) (σ1 := σ') (d4 ()) (exSs_step (Γ1 := upd g4 (Str.ofString "found") (.lst ((stepB F r).map unitD))) (σ1 := σ') ?_ exSs_nil))))
      · simp only [eE_int, eEs_nil, eS_assign, sE_name, kRet_some, sE_call, kC1_fn, sEs_cons, kE1_some, kE2_some, sA_name, kAe_some, tD_name, iD_call, kSub1_some, kSub2_some, kSub3_some, sE_subC, upd, if_true, if_false, Bool.and_false, Bool.false_eq_true, List.contains_nil, isLoc_str, sub_unit3, deref_unit, T2_item, item_name']
      · simp only [eS_assign, sE_name, kRet_some, sE_comp, kCo1_some, kCo2_some, kCo3_some, sA_name, tD_name, iD_comp, upd, ofS_inj, String.reduceEq, if_false, Bool.and_false, Bool.false_eq_true, List.contains_nil, deref_lst, p1, items_lst hfd]
        rw [compL_mapAll unitD (fun q => .str q.name) sameAt_lst F (fun q hq => ?_)]
        · rw [show F.map (fun q => D.str q.name) = strsD (knownF F) from by simp [strsD, knownF]]
          simp only [kCo4_some, kAe_some, if_true, if_false, Bool.false_eq_true, isLoc_lst, hks]
        · simp only [eE_int, eEs_nil, sE_name, kRet_some, sE_call, kC1_fn, compF_app, kF1_some, kF2_some, sEs_cons, kE1_some, kE2_some, sB_nila, sG_nil, kG_some, aT_name, kSub1_some, kSub2_some, kSub3_some, sE_subC, upd, ofS_inj, ofS_beq, String.reduceEq, String.reduceBEq, if_true, if_false, capt, List.lookup_cons, Bool.false_eq_true, beq_self_eq_true, isLoc_str, sub_unit3, deref_unit, T2_item, item_name']
      · rw [hg3]
        simp only [eEs_nil, eS_assign, sE_name, kRet_some, sE_call, kC1_bi, kC3_some, sEs_cons, kE1_some, kE2_some, sA_name, kAe_some, tD_name, iD_call, upd, ofS_inj, String.reduceEq, if_false, Bool.and_false, Bool.false_eq_true, List.contains_nil, deref_lst, isLoc_int, p1, T2_len, bi_len hfd, List.length_map]
      · have hpb := posB_le (F := F) (r := r)
        have h1 := slice_to (l := F.map unitD) (n := posB F r) (by simpa using hpb) hfd
        have h2 := slice_from (l := F.map unitD) (n := posB F r) (by simpa using hpb) hfd
        have e1 : ((List.take (posB F r) (F.map unitD)).length + 1 ≤ 1000) = True := by simp; omega
        have e2 : ((List.take (posB F r) (F.map unitD) ++ [unitD r]).length + (List.drop (posB F r) (F.map unitD)).length ≤ 1000) = True := by simp; omega
        simp only [eEs_nil, eO_none, eS_assign, sE_name, kRet_some, sE_list, kLst_some, sE_bin, kBin1_some, kBin2_some, sE_slice, kSl1_some, kSl2_some, kSl3_some, kSl4_some, sEs_cons, kE1_some, kE2_some, sO_some, kO_some, sA_name, kAe_some, tD_name, iD_bin, if_true, if_false, decide_true, Bool.and_true, Bool.and_false, Bool.not_false, Bool.false_eq_true, List.contains_nil, List.length_cons, List.length_nil, Nat.reduceLeDiff, deref_lst, isLoc_lst, bin_add_lst, plain_nil, plain_cons, Bool.and_false, Bool.false_eq_true, if_false, d1, d2, d3, deref_lst, h1, h2, plain_cons, plain_nil, isLoc_unit, Bool.not_false, Bool.and_true, List.length_cons, List.length_nil, Nat.zero_add, Nat.reduceLeDiff, decide_true, if_true, bin_add_lst, e1, e2, isLoc_lst]
        have hst : (stepB F r).map unitD = List.take (posB F r) (F.map unitD) ++ [unitD r] ++ List.drop (posB F r) (F.map unitD) := by
          unfold stepB
          simp only [List.map_append, List.map_take, List.map_drop, List.map_cons, List.map_nil]
        rw [hst])
    rw [List.take_length] at q1
    subst q2
    exact ⟨Γ', q1, rfl⟩
  obtain ⟨Γ', q1, q2⟩ := key
  have s1 : exSs 59 T2 [] (B3.drop 1) (upd Γ0 (Str.ofString "found") (.lst [])) σ = exSs 58 T2 [] (B3.drop 2) Γ' σ := by
    conv => lhs; arg 4; whnf
    exact exSs_step q2 rfl
  have s2 : exSs 58 T2 [] (B3.drop 2) Γ' σ = some (.ret (.lst ((R.foldl stepB []).map unitD)), Γ', σ) := by
    conv => lhs; arg 4; whnf
    apply exSs_ret
    simp only [sE_name, kRet_some, sS_ret, kR_some, q1]
  have all : exSs 60 T2 [] (B3.drop 0) Γ0 σ = some (.ret (.lst ((R.foldl stepB []).map unitD)), Γ', σ) := by rw [s0, s1, s2]
  unfold fn3 mkFn
  conv in (defOf _ _) => whnf
  refine runFn_of ?_ all ?_
  · rw [hΓ0]; rfl
  · show some (_, σ.take σ.length) = _
    rw [List.take_length]
end Mine

-- SqA
namespace Mine
open PySem
set_option maxRecDepth 10000
set_option linter.unusedSimpArgs false
set_option linter.unusedVariables false

/-! ## what a Valid list is like -/
theorem valid_get {R : List Row} (v : Valid R) : ∀ i (hi : i < R.length), Next (R.take i) (i : Int) R[i] := by
  induction v with
  | nil => intro i hi; simp at hi
  | @snoc R r v hn ih =>
    intro i hi
    rcases Nat.lt_or_ge i R.length with h | h
    · have h1 := ih i h
      have e1 : (R ++ [r])[i] = R[i] := List.getElem_append_left h
      have e2 : (R ++ [r]).take i = R.take i := List.take_append_of_le_length (by omega)
      rw [e1, e2]; exact h1
    · have hie : i = R.length := by simp at hi; omega
      subst hie
      have e1 : (R ++ [r])[R.length] = r := by simp
      have e2 : (R ++ [r]).take R.length = R := by simp
      rw [e1, e2]; exact hn
theorem mem_ahead {R : List Row} {n : Str} : n ∈ aheadR R ↔ ∃ r ∈ R, r.sort ≠ .b ∧ r.name = n := by
  unfold aheadR
  simp only [List.mem_map, List.mem_filter, Bool.not_eq_true', decide_eq_false_iff_not]
  exact ⟨fun ⟨r, ⟨h1, h2⟩, h3⟩ => ⟨r, h1, h2, h3⟩, fun ⟨r, h1, h2, h3⟩ => ⟨r, ⟨h1, h2⟩, h3⟩⟩
theorem mem_take_get {R : List Row} {i : Nat} {r : Row} (h : r ∈ R.take i) : ∃ j, ∃ hj : j < R.length, j < i ∧ R[j] = r := by
  obtain ⟨j, hj, rfl⟩ := List.mem_iff_getElem.mp h
  rw [List.length_take] at hj
  exact ⟨j, by omega, by omega, by rw [List.getElem_take]⟩

theorem valid_good {R : List Row} (v : Valid R) (hR : R.length ≤ 7) : Good R := by
  have hg := valid_get v
  have body : ∀ i (hi : i < R.length), R[i].sort = .b → ∃ j, ∃ hj : j < R.length, j < i ∧ R[j].name = R[i].name ∧ R[j].sort ≠ .b ∧ ∀ k (hk : k < R.length), k < i → R[k].name = R[i].name → R[k].sort ≠ .b := by
    intro i hi hb
    rcases (hg i hi).kind with ⟨h, _⟩ | ⟨_, s, hs, hn⟩
    · exact absurd hb h
    · unfold waitingR at hs
      simp only [List.mem_filter, Bool.and_eq_true, Bool.not_eq_true', decide_eq_false_iff_not, List.isEmpty_iff] at hs
      obtain ⟨h1, h2, h3⟩ := hs
      obtain ⟨j, hj, hji, rfl⟩ := mem_take_get h1
      refine ⟨j, hj, hji, hn, h2, fun k hk hki hkn hkb => ?_⟩
      rw [List.filter_eq_nil_iff] at h3
      have hkm : R[k] ∈ R.take i := by
        rw [List.mem_iff_getElem]
        exact ⟨k, by rw [List.length_take]; omega, by rw [List.getElem_take]⟩
      apply h3 _ hkm
      unfold isBodyOf
      simp [hkn, hn, hkb]
  have spec : ∀ i (hi : i < R.length), R[i].sort ≠ .b → R[i].name = uName (i : Int) := by
    intro i hi hb
    rcases (hg i hi).kind with ⟨_, h⟩ | ⟨h, _⟩
    · exact h
    · exact absurd h hb
  refine ⟨fun i j hi hj hn hk => ?_, fun i hi hb => ?_, fun i hi n hn => ?_⟩
  · by_cases hb : R[i].sort = .b
    · have hbj : R[j].sort = .b := by
        apply Classical.byContradiction
        intro h
        rw [kindS_b hb, kindS_s h] at hk
        rw [ofS_inj] at hk
        exact absurd hk (by decide)
      rcases Nat.lt_trichotomy i j with h | h | h
      · obtain ⟨_, _, _, _, _, q⟩ := body j hj hbj
        exact absurd hb (q i hi h hn)
      · exact h
      · obtain ⟨_, _, _, _, _, q⟩ := body i hi hb
        exact absurd hbj (q j hj h hn.symm)
    · have hbj : R[j].sort ≠ .b := by
        intro h
        rw [kindS_s hb, kindS_b h] at hk
        rw [ofS_inj] at hk
        exact absurd hk (by decide)
      rw [spec i hi hb, spec j hj hbj] at hn
      have := u_inj (n := (i : Int)) (m := (j : Int)) (by omega) (by omega) hn
      omega
  · obtain ⟨j, hj, h1, h2, h3, _⟩ := body i hi hb
    exact ⟨j, hj, h1, h2, h3⟩
  · obtain ⟨ns, h1, h2⟩ := (hg i hi).names
    rw [h2] at hn
    have := h1.subset (List.mem_filter.mp hn).1
    obtain ⟨r, hr, hs, hrn⟩ := mem_ahead.mp this
    obtain ⟨j, hj, hji, rfl⟩ := mem_take_get hr
    exact ⟨j, hj, hji, hrn, hs⟩
end Mine

-- SqB
namespace Mine
open PySem
set_option maxRecDepth 10000
set_option linter.unusedSimpArgs false
set_option linter.unusedVariables false

theorem ahead_nodup {L : List Row} (g : Good L) : (aheadR L).Nodup := by
  unfold aheadR
  rw [List.Nodup, List.pairwise_map, List.pairwise_filter, List.pairwise_iff_getElem]
  intro i j hi hj hij h1 h2 hn
  simp only [Bool.not_eq_true', decide_eq_false_iff_not] at h1 h2
  have := g.uniq i j hi hj hn (by rw [kindS_s h1, kindS_s h2])
  omega
theorem ahead_sub {L : List Row} (g : Good L) : ∀ r ∈ L, ∀ n ∈ r.names, n ∈ aheadR L := by
  intro r hr n hn
  obtain ⟨i, hi, rfl⟩ := List.mem_iff_getElem.mp hr
  obtain ⟨j, hj, _, h1, h2⟩ := g.names i hi n hn
  exact mem_ahead.mpr ⟨L[j], List.getElem_mem hj, h2, h1⟩
theorem valid_names {R : List Row} (v : Valid R) (g : Good R) : ∀ r ∈ R, r.names.Nodup := by
  intro r hr
  obtain ⟨i, hi, rfl⟩ := List.mem_iff_getElem.mp hr
  obtain ⟨ns, h1, h2⟩ := (valid_get v i hi).names
  rw [h2]
  have h3 : (aheadR (R.take i)).Sublist (aheadR R) := by
    unfold aheadR
    exact ((List.take_sublist i R).filter _).map _
  exact List.Pairwise.filter _ (((ahead_nodup g).sublist h3).sublist h1)
theorem names_len {L : List Row} (g : Good L) (hL : L.length ≤ 7) (hnd : ∀ r ∈ L, r.names.Nodup) : ∀ r ∈ L, r.names.length ≤ 7 := by
  intro r hr
  have h1 := List.Nodup.length_le_of_subset (hnd r hr) (ahead_sub g r hr)
  have h2 : (aheadR L).length ≤ L.length := by unfold aheadR; rw [List.length_map]; exact List.length_filter_le _ _
  omega

/-! ## both ways to the same rows -/
theorem reach_name {L : List Row} (g : Good L) {main : Str} {m : Nat} {V : List Nat} {W : List Str} (hm : place L main (Str.ofString "spec") = some m) (hV : Reach L m V) (hW : InvN L main W) (hc : ClosedN L (· ∈ W)) : reachIx L V = nameIx L W := by
  unfold reachIx nameIx
  apply List.filter_congr
  intro a ha
  have hal : a < L.length := List.mem_range.mp ha
  rw [List.getElem?_eq_getElem hal]
  simp only
  congr 1
  apply propext
  obtain ⟨hml, hmn, hmk⟩ := place_some hm
  constructor
  · -- what is reached has a wanted name
    intro haV
    have := hV.least (fun b => ∀ hb : b < L.length, L[b].name ∈ W) (fun _ => by rw [hmn]; exact hW.mem) (fun b hb c hc' hcl => by
      by_cases hbl : b < L.length
      · have hbW := hb hbl
        unfold succF at hc'
        rw [List.getElem?_eq_getElem hbl] at hc'
        rcases List.mem_append.mp hc' with h | h
        · unfold needsF at h
          rw [mem_dd] at h
          obtain ⟨n, hn, rfl⟩ := List.mem_map.mp h
          obtain ⟨j, hj, _, hjn, _, hp⟩ := req_spec g hbl hn
          have hsp : specAt L n = j := by unfold specAt; rw [hp]; rfl
          simp only [hsp, hjn]
          unfold reqNames at hn
          rcases List.mem_append.mp hn with hn | hn
          · split at hn
            · simp only [List.mem_singleton] at hn
              rw [hn]; exact hbW
            · cases hn
          · exact hc L[b] (List.getElem_mem hbl) hbW n hn
        · unfold bodyAt at h
          cases hb2 : place L L[b].name (Str.ofString "body") with
          | none => rw [hb2] at h; simp at h
          | some j =>
            rw [hb2] at h
            simp at h
            subst h
            obtain ⟨_, hn2, _⟩ := place_some hb2
            rw [hn2]; exact hbW
      · unfold succF at hc'
        rw [List.getElem?_eq_none (by omega)] at hc'
        simp at hc') a haV hal
    exact this
  · -- a wanted name's rows are reached
    intro haW
    have helper : ∀ j (hj : j < L.length), j ∈ V → L[j].sort ≠ .b → ∀ b (hb : b < L.length), L[b].name = L[j].name → b ∈ V := by
      intro j hj hjV hjs b hb hbn
      by_cases hbs : L[b].sort = .b
      · refine hV.closed j hjV b ?_
        unfold succF
        rw [List.getElem?_eq_getElem hj]
        refine List.mem_append_right _ ?_
        unfold bodyAt
        rw [place_at g hb hbn (kindS_b hbs)]
        simp
      · have := g.uniq b j hb hj hbn (by rw [kindS_s hbs, kindS_s hjs])
        rw [this]; exact hjV
    have hms : L[m].sort ≠ .b := by
      intro h
      rw [kindS_b h, ofS_inj] at hmk
      exact absurd hmk (by decide)
    have key : ∀ n ∈ W, ∀ b (hb : b < L.length), L[b].name = n → b ∈ V := by
      have hS : ∀ n ∈ W, (fun n => ∀ b (hb : b < L.length), L[b].name = n → b ∈ V) n := hW.least (fun n => ∀ b (hb : b < L.length), L[b].name = n → b ∈ V) ?_ ?_
      · exact hS
      · intro b hb hbn
        exact helper m hml hV.main hms b hb (hbn.trans hmn.symm)
      · intro r hr hS n hn b hb hbn
        obtain ⟨i, hi, rfl⟩ := List.mem_iff_getElem.mp hr
        have hiV := hS i hi rfl
        have hreq : n ∈ reqNames L[i] := by unfold reqNames; exact List.mem_append_right _ hn
        obtain ⟨j, hj, _, hjn, hjs, hp⟩ := req_spec g hi hreq
        have hjV : j ∈ V := by
          refine hV.closed i hiV j ?_
          unfold succF
          rw [List.getElem?_eq_getElem hi]
          refine List.mem_append_left _ ?_
          unfold needsF
          rw [mem_dd]
          refine List.mem_map.mpr ⟨n, hreq, ?_⟩
          unfold specAt
          rw [hp]; rfl
        exact helper j hj hjV hjs b hb (hbn.trans hjn.symm)
    exact key _ haW a hal rfl
end Mine

-- SqC
namespace Mine
open PySem
set_option maxRecDepth 10000
set_option linter.unusedSimpArgs false
set_option linter.unusedVariables false

/-! ## == on rows and units -/
noncomputable def pl : Nat → D → Bool
  | _, .int _ => true
  | _, .str _ => true
  | k + 1, .tup l => l.all (pl k)
  | k + 1, .lst l => l.all (pl k)
  | _, _ => false
theorem beqL_len : ∀ {a b : List D}, beqL a b = true → a.length = b.length
  | [], [], _ => rfl
  | [], _ :: _, h => no h
  | _ :: _, [], h => no h
  | x :: a, y :: b, h => congrArg Nat.succ (beqL_len ((Bool.and_eq_true_iff (x := beqD x y)).mp h).2)
theorem eqLW_pl {f : D → D → Option Bool} {p : D → Bool} (hf : ∀ x y, p x = true → p y = true → f x y = some (beqD x y)) : ∀ (a b : List D), a.all p = true → b.all p = true → eqLW f a b = some (beqL a b)
  | [], [], _, _ => rfl
  | [], _ :: _, _, _ => rfl
  | _ :: _, [], _, _ => rfl
  | x :: a, y :: b, ha, hb => by
    have ha := (Bool.and_eq_true_iff (x := p x)).mp ha
    have hb := (Bool.and_eq_true_iff (x := p y)).mp hb
    rw [eLW_cons, hf x y ha.1 hb.1, Option.bind_some, eqLW_pl hf a b ha.2 hb.2]
    rfl
theorem eqD_pl : ∀ (k n : Nat) (a b : D), k ≤ n → pl k a = true → pl k b = true → eqD n a b = some (beqD a b) := by
  intro k
  induction k with
  | zero =>
    intro n a b _ ha hb
    cases a with
    | int x =>
      cases b with
      | int y => exact eqD_int
      | str y => cases n <;> rfl
      | _ => exact no hb
    | str x =>
      cases b with
      | str y => exact eqD_str
      | int y => cases n <;> rfl
      | _ => exact no hb
    | _ => exact no ha
  | succ k ih =>
    intro n a b hn ha hb
    cases n with
    | zero => omega
    | succ n =>
    have hf : ∀ x y, pl k x = true → pl k y = true → eqD n x y = some (beqD x y) := fun x y hx hy => ih n x y (Nat.le_of_succ_le_succ hn) hx hy
    cases a with
    | int x =>
      cases b with
      | int y => exact eqD_int
      | str y => rfl
      | tup y => rfl
      | lst y => rfl
      | _ => exact no hb
    | str x =>
      cases b with
      | int y => rfl
      | str y => exact eqD_str
      | tup y => rfl
      | lst y => rfl
      | _ => exact no hb
    | tup x =>
      cases b with
      | int y => rfl
      | str y => rfl
      | tup y => exact eqLW_pl hf _ _ ha hb
      | lst y => rfl
      | _ => exact no hb
    | lst x =>
      cases b with
      | int y => rfl
      | str y => rfl
      | tup y => rfl
      | lst y =>
        rw [eqD_lst]
        by_cases hl : x.length = y.length
        · rw [if_pos hl]; exact eqLW_pl hf _ _ ha hb
        · rw [if_neg hl]
          cases hb : beqL x y with
          | false => exact congrArg some hb.symm
          | true => exact absurd (beqL_len hb) hl
      | _ => exact no hb
    | _ => exact no ha

theorem beqD_iff {a b : D} : beqD a b = true ↔ a = b := ⟨eq_of_beqD, fun h => h ▸ beqD_refl a⟩
theorem pl_mono : ∀ {k n : Nat} {d : D}, k ≤ n → pl k d = true → pl n d = true := by
  intro k
  induction k with
  | zero =>
    intro n d _ h
    cases d with
    | int x => cases n <;> rfl
    | str x => cases n <;> rfl
    | _ => exact no h
  | succ k ih =>
    intro n d hn h
    cases n with
    | zero => omega
    | succ n =>
      cases d with
      | int x => rfl
      | str x => rfl
      | tup l => exact List.all_eq_true.mpr fun x hx => ih (Nat.le_of_succ_le_succ hn) (List.all_eq_true.mp h x hx)
      | lst l => exact List.all_eq_true.mpr fun x hx => ih (Nat.le_of_succ_le_succ hn) (List.all_eq_true.mp h x hx)
      | _ => exact no h
theorem pl_strs {l : List Str} {k : Nat} : (strsD l).all (pl k) = true := by
  rw [List.all_eq_true]
  intro x hx
  obtain ⟨y, _, rfl⟩ := List.mem_map.mp hx
  cases k <;> rfl
theorem pl_item {r : Row} : pl 3 (itemD r) = true := by
  obtain ⟨a, n, s, ns⟩ := r
  cases s <;> rfl
theorem pl_ctx {r : Row} : pl 4 (ctxD r) = true := by
  have : ((wantR r).map nodeD).all (pl 1) = true := by
    rw [List.all_eq_true]
    intro x hx
    obtain ⟨y, _, rfl⟩ := List.mem_map.mp hx
    rfl
  show (true && (true && ((((wantR r).map nodeD).all (pl 1)) && true))) && true = true
  rw [this]; rfl
theorem pl_unit {r : Row} : pl 5 (unitD r) = true := by
  show (true && (true && (pl 4 (ctxD r) && (pl 4 (itemD r) && true)))) = true
  rw [pl_ctx, pl_mono (by decide) (pl_item (r := r))]; rfl
theorem pl_row {r : Row} : pl 6 (rowD r) = true := by
  have h : (strsD r.names).all (pl 4) = true := pl_strs
  show (true && (true && ((strsD r.names).all (pl 4) && (pl 5 (unitD r) && true)))) = true
  rw [h, pl_unit]; rfl
theorem strs_inj : ∀ {a b : List Str}, a.map D.str = b.map D.str → a = b
  | [], [], _ => rfl
  | [], _ :: _, h => by simp at h
  | _ :: _, [], h => by simp at h
  | x :: a, y :: b, h => by
    simp only [List.map_cons, List.cons.injEq, D.str.injEq] at h
    rw [h.1, strs_inj h.2]
theorem sort_inj {s s' : Srt} (h : sortS s = sortS s') : s = s' := by
  cases s <;> cases s' <;> first | rfl | (simp only [sortS, ofS_inj] at h; exact absurd h (by decide))
theorem row_inj {r q : Row} : rowD r = rowD q ↔ r = q := by
  constructor
  · intro h
    obtain ⟨a, n, s, ns⟩ := r
    obtain ⟨a', n', s', ns'⟩ := q
    simp only [rowD, unitD, D.tup.injEq, List.cons.injEq, D.str.injEq, D.lst.injEq, D.int.injEq, and_true, true_and] at h
    obtain ⟨h1, h2, h3, h4, _⟩ := h
    have ha : a = a' := by omega
    subst h1
    subst ha
    rw [sort_inj h2, strs_inj h3]
  · rintro rfl; rfl
theorem eq_rows (a b : Row) : eqD 12 (rowD a) (rowD b) = some (decide (a = b)) := by
  rw [eqD_pl 6 12 _ _ (by decide) pl_row pl_row]
  congr 1
  rw [Bool.eq_iff_iff, beqD_iff, row_inj]
  simp
theorem pl_rows {L : List Row} : pl 7 (.lst (L.map rowD)) = true := by
  show (L.map rowD).all (pl 6) = true
  rw [List.all_eq_true]
  intro x hx
  obtain ⟨y, _, rfl⟩ := List.mem_map.mp hx
  exact pl_row
theorem pl_units {L : List Row} : pl 6 (.lst (L.map unitD)) = true := by
  show (L.map unitD).all (pl 5) = true
  rw [List.all_eq_true]
  intro x hx
  obtain ⟨y, _, rfl⟩ := List.mem_map.mp hx
  exact pl_unit
theorem cmp_ne_units {σ : Store} {L : List Row} : cmpD σ .NotEq (.lst (L.map unitD)) (.lst (L.map unitD)) = some false := by
  show Option.map (!·) (eqD 12 _ _) = _
  rw [eqD_pl 6 12 _ _ (by decide) (pl_units (L := L)) (pl_units (L := L)), beqD_refl]; rfl
theorem cmp_ne_rows {σ : Store} {L : List Row} : cmpD σ .NotEq (.lst (L.map rowD)) (.lst (L.map rowD)) = some false := by
  show Option.map (!·) (eqD 12 _ _) = _
  rw [eqD_pl 7 12 _ _ (by decide) (pl_rows (L := L)) (pl_rows (L := L)), beqD_refl]; rfl
theorem cmp_eq_rows {σ : Store} {L : List Row} : cmpD σ .Eq (.lst (L.map rowD)) (.lst (L.map rowD)) = some true := by
  show eqD 12 _ _ = _
  rw [eqD_pl 7 12 _ _ (by decide) (pl_rows (L := L)) (pl_rows (L := L)), beqD_refl]
theorem inL_rows (a : Row) : ∀ (l : List Row), inL (l.map rowD) (rowD a) = some (decide (a ∈ l))
  | [] => rfl
  | b :: l => by
    have ih := inL_rows a l
    unfold inL at ih ⊢
    rw [List.map_cons, eEach_cons, show eqFuel = 12 from rfl, eq_rows, Option.bind_some]
    rw [Option.map_eq_some_iff] at ih
    obtain ⟨bs, h1, h2⟩ := ih
    rw [h1]
    simp only [Option.map_some, List.any_cons, id, h2, Option.some.injEq]
    rw [Bool.eq_iff_iff]
    simp only [Bool.or_eq_true, decide_eq_true_eq, List.mem_cons]
    exact ⟨fun h => h.imp Eq.symm id, fun h => h.imp Eq.symm id⟩
theorem cmp_in_rows {σ : Store} {a : Row} {c : D} {l : List Row} (h : deref σ c = some (.lst (l.map rowD))) : cmpD σ .In (rowD a) c = some (decide (a ∈ l)) := by
  exact (cmp_in_of deref_row h).trans (inL_rows a l)
end Mine

-- SqD
namespace Mine
open PySem
set_option maxRecDepth 10000
set_option linter.unusedSimpArgs false
set_option linter.unusedVariables false

/-! ## _law_moved -/
noncomputable def gens (R : List Row) : List Str := (R.filter fun r => decide (r.sort = .g)).map (·.name)
noncomputable def isGBm (R : List Row) (r : Row) : Bool := decide (r.sort = .b) && decide (r.name ∈ gens R)
noncomputable def lastM (R : List Row) (r : Row) : Nat := maxN ((r.names ++ [r.name]).map (specAt R))
noncomputable def behM (R : List Row) (i a : Nat) : List Row := ((R.take i).filter fun r => isGBm R r && decide (lastM R r = a)).reverse
noncomputable def staysM (R : List Row) (i : Nat) : List Nat := (List.range i).filter fun a => match R[a]? with | some r => !isGBm R r | none => false
noncomputable def grpM (R : List Row) (a : Nat) : List Row := match R[a]? with | some r => r :: behM R R.length a | none => []
noncomputable def movedR (R : List Row) : List Row := (staysM R R.length).flatMap (grpM R)

noncomputable abbrev B12 : List Stmt := bodyOf (Str.ofString "_law_moved")
noncomputable abbrev mv12 : List Str := [Str.ofString "place", Str.ofString "behind", Str.ofString "stays"]
noncomputable def stM (σ : Store) (pk bk : List (Key × D)) (S : List Nat) : Store := σ ++ [.dct pk, .dct bk, .lst (intsD S)]

theorem moved0 {Γ : Ctx} {σ : Store} : exSs 60 T11 mv12 (B12.drop 0) Γ σ = exSs 59 T11 mv12 (B12.drop 1) (upd (upd (upd Γ (Str.ofString "place") (.loc σ.length)) (Str.ofString "behind") (.loc (σ.length + 1))) (Str.ofString "stays") (.loc (σ.length + 2))) (stM σ [] [] []) := by
  conv => lhs; arg 4; whnf
  refine exSs_step ?_ rfl
  simp only [Bool.and_true, eEs_nil, eP_nil, eFs_nil, eS_assign, sE_list, kLst_some, kE2_some, sF_list, sF_dict, kD1_some, kD2_some, sFs_cons, kFs1_some, kFs2_some, kFs3_some, sA_tt, kAt_some, kAt2_some, aN_nil, aN_cons, tD_name, iD_list, iD_dict, ofS_beq, String.reduceBEq, if_true, if_false, decide_true, Bool.and_true, Bool.or_true, Bool.or_false, Bool.false_eq_true, List.contains_cons, List.contains_nil, List.length_cons, List.length_nil, Nat.reduceAdd, Nat.zero_le, beq_self_eq_true, isLoc_lst, plain_nil, dictOfPairs, List.length_append]
  simp only [stM, intsD, List.map_nil, List.append_assoc, List.cons_append, List.nil_append]

theorem moved1 {Γ : Ctx} {σ : Store} {p : D} {R : List Row} (h1 : Γ (Str.ofString "rows") = some p) (hp : IsRows σ p R) (hR : R.length ≤ 900) : exSs 59 T11 mv12 (B12.drop 1) Γ σ = exSs 58 T11 mv12 (B12.drop 2) (upd Γ (Str.ofString "generics") (.lst (strsD (gens R)))) σ := by
  have hl : (strsD (gens R)).length ≤ 1000 := by
    unfold strsD gens
    rw [List.length_map, List.length_map]
    exact Nat.le_trans (List.length_filter_le _ _) (by omega)
  conv => lhs; arg 4; whnf
  refine exSs_step ?_ rfl
  simp only [eS_assign, sE_name, kRet_some, sE_comp, kCo1_some, kCo2_some, kCo3_some, sA_name, tD_name, iD_comp, ofS_beq, String.reduceBEq, if_false, Bool.and_false, Bool.or_false, Bool.false_eq_true, List.contains_cons, List.contains_nil, h1, hp.d, hp.it]
  rw [compL_map rowD (fun r => decide (r.sort = .g)) (fun r => .str r.name) hp.same R (fun r hr => ?_)]
  · rw [show (R.filter fun r => decide (r.sort = .g)).map (fun r => D.str r.name) = strsD (gens R) from by unfold gens strsD; rw [List.map_map]; rfl]
    simp only [hl, kCo4_some, kAe_some, if_true, if_false, Bool.false_eq_true, isLoc_lst]
  · have hs : decide (sortS r.sort = Str.ofString "generic") = decide (r.sort = .g) := by cases r.sort <;> simp [sortS, ofS_inj]
    simp only [eE_int, eE_str, sE_name, kRet_some, compF_app, kF1_some, sT_cmp, kT1_some, kT2_some, kTB_some, sB_and, aT_name, kSub1_some, kSub2_some, kSub3_some, sE_subC, upd, ofS_beq, String.reduceBEq, if_true, capt, List.lookup_cons, beq_self_eq_true, deref_row, cmp_eq_str, sub_row1, hs]
    by_cases h : r.sort = .g <;> simp only [h, eE_int, sE_name, kRet_some, kF2_some, sB_nila, kBa_f, kBa_t, sG_nil, kG_some, kSub1_some, kSub2_some, kSub3_some, sE_subC, upd, ofS_beq, String.reduceBEq, if_true, if_false, capt, List.lookup_cons, decide_true, decide_false, Bool.false_eq_true, beq_self_eq_true, deref_row, isLoc_str, sub_row0]
end Mine

-- SqE
namespace Mine
open PySem
set_option maxRecDepth 10000
set_option linter.unusedSimpArgs false
set_option linter.unusedVariables false

section
variable {σ : Store} {pk bk : List (Key × D)} {S : List Nat}
theorem stM_p : (stM σ pk bk S)[σ.length]? = some (.dct pk) := by
  unfold stM
  rw [List.getElem?_append_right (Nat.le_refl _), Nat.sub_self]; rfl
theorem stM_b : (stM σ pk bk S)[σ.length + 1]? = some (.dct bk) := by
  unfold stM
  rw [List.getElem?_append_right (by omega), Nat.add_sub_cancel_left]; rfl
theorem stM_s : (stM σ pk bk S)[σ.length + 2]? = some (.lst (intsD S)) := by
  unfold stM
  rw [List.getElem?_append_right (by omega), Nat.add_sub_cancel_left]; rfl
theorem stM_setp {pk' : List (Key × D)} : (stM σ pk bk S).set σ.length (.dct pk') = stM σ pk' bk S := by
  unfold stM
  rw [List.set_append_right _ _ (Nat.le_refl _), Nat.sub_self]; rfl
theorem stM_setb {bk' : List (Key × D)} : (stM σ pk bk S).set (σ.length + 1) (.dct bk') = stM σ pk bk' S := by
  unfold stM
  rw [List.set_append_right _ _ (by omega), Nat.add_sub_cancel_left]; rfl
theorem stM_sets {S' : List Nat} : (stM σ pk bk S).set (σ.length + 2) (.lst (intsD S')) = stM σ pk bk S' := by
  unfold stM
  rw [List.set_append_right _ _ (by omega), Nat.add_sub_cancel_left]; rfl

/-- the state of _law_moved's loop at its i-th row -/
structure MI (R : List Row) (i : Nat) (pk bk : List (Key × D)) (S : List Nat) : Prop where
  stays : S = staysM R i
  pkind : ∀ n, kindsOk (.s n) pk = true
  plen : pk.length ≤ i
  place : ∀ j (hj : j < R.length), j < i → R[j].sort ≠ .b → assocGet pk (.s R[j].name) = some (.int (j : Int))
  bkind : ∀ n, kindsOk (.i n) bk = true
  blen : bk.length ≤ i
  behind : ∀ a : Nat, (assocGet bk (.i (a : Int))).getD (.lst []) = .lst ((behM R i a).map rowD)
end

theorem kinds_set {kvs : List (Key × D)} {k k' : Key} {d : D} (h : kindsOk k' kvs = true) (hk : k.kind = k'.kind) : kindsOk k' (assocSet kvs k d) = true := by
  unfold kindsOk at h ⊢
  rw [List.all_eq_true] at h ⊢
  intro x hx
  unfold assocSet at hx
  split at hx
  · obtain ⟨y, hy, rfl⟩ := List.mem_map.mp hx
    split
    · exact h y hy
    · exact h y hy
  · rcases List.mem_append.mp hx with hx | hx
    · exact h x hx
    · simp only [List.mem_singleton] at hx
      subst hx
      simp [hk]
theorem len_set {kvs : List (Key × D)} {k : Key} {d : D} : (assocSet kvs k d).length ≤ kvs.length + 1 := by
  unfold assocSet
  split
  · simp
  · simp
theorem get_cons {kv : Key × D} {kvs : List (Key × D)} {k : Key} : assocGet (kv :: kvs) k = if kv.1 = k then some kv.2 else assocGet kvs k := by
  unfold assocGet
  rw [List.find?_cons]
  by_cases h : kv.1 = k
  · simp [h]
  · simp [h]
theorem get_map {k k' : Key} {d : D} : ∀ (kvs : List (Key × D)), assocGet (kvs.map fun kv => if kv.1 = k then (kv.1, d) else kv) k' = if k = k' then (assocGet kvs k').map (fun _ => d) else assocGet kvs k'
  | [] => by simp [assocGet]
  | kv :: kvs => by
    have ih := get_map (k := k) (k' := k') (d := d) kvs
    rw [List.map_cons, get_cons, get_cons, ih]
    by_cases h1 : kv.1 = k
    · by_cases h2 : k = k'
      · simp [h1, h2]
      · have h3 : ¬ kv.1 = k' := fun e => h2 (h1.symm.trans e)
        simp [h1, h2]
    · by_cases h2 : k = k'
      · subst h2; simp [h1]
      · simp [h1, h2]
theorem get_append {k' : Key} {x : Key × D} : ∀ (kvs : List (Key × D)), assocGet (kvs ++ [x]) k' = (assocGet kvs k').or (if x.1 = k' then some x.2 else none)
  | [] => by
    rw [List.nil_append, get_cons]
    simp [assocGet]
  | kv :: kvs => by
    rw [List.cons_append, get_cons, get_cons, get_append kvs]
    by_cases h : kv.1 = k' <;> simp [h]
theorem get_set {kvs : List (Key × D)} {k k' : Key} {d : D} : assocGet (assocSet kvs k d) k' = if k = k' then some d else assocGet kvs k' := by
  unfold assocSet
  split
  · rename_i h
    rw [get_map]
    by_cases hk : k = k'
    · subst hk
      obtain ⟨v, hv⟩ := Option.isSome_iff_exists.mp h
      simp [hv]
    · simp [hk]
  · rename_i h
    rw [get_append]
    by_cases hk : k = k'
    · subst hk
      have : assocGet kvs k = none := by simpa using h
      simp [this]
    · simp [hk]
end Mine

-- SqF
namespace Mine
open PySem
set_option maxRecDepth 10000
set_option linter.unusedSimpArgs false
set_option linter.unusedVariables false

structure PM (p : D) (R : List Row) (σ : Store) (Γ : Ctx) : Prop where
  rows : Γ (Str.ofString "rows") = some p
  generics : Γ (Str.ofString "generics") = some (.lst (strsD (gens R)))
  place : Γ (Str.ofString "place") = some (.loc σ.length)
  behind : Γ (Str.ofString "behind") = some (.loc (σ.length + 1))
  stays : Γ (Str.ofString "stays") = some (.loc (σ.length + 2))

theorem stays_succ {R : List Row} {i : Nat} (hi : i < R.length) : staysM R (i + 1) = if isGBm R R[i] = true then staysM R i else staysM R i ++ [i] := by
  unfold staysM
  rw [List.range_succ, List.filter_append]
  simp only [List.filter_cons, List.filter_nil, List.getElem?_eq_getElem hi]
  by_cases h : isGBm R R[i] = true <;> simp [h]
theorem beh_succ {R : List Row} {i a : Nat} (hi : i < R.length) : behM R (i + 1) a = if (isGBm R R[i] && decide (lastM R R[i] = a)) = true then R[i] :: behM R i a else behM R i a := by
  unfold behM
  rw [List.take_add_one, List.getElem?_eq_getElem hi, Option.toList_some, List.filter_append, List.reverse_append, List.filter_cons, List.filter_nil]
  split <;> simp

theorem MI.start {R : List Row} : MI R 0 [] [] [] :=
  ⟨rfl, fun _ => rfl, Nat.le_refl _, fun j hj h => by omega, fun _ => rfl, Nat.le_refl _, fun a => by simp [assocGet, behM]⟩
/-- a generic's body -/
theorem MI.gb {R : List Row} {i : Nat} {pk bk : List (Key × D)} {S : List Nat} (x : MI R i pk bk S) (hi : i < R.length) (h : isGBm R R[i] = true) :
    MI R (i + 1) pk (assocSet bk (.i (lastM R R[i] : Nat)) (.lst ((R[i] :: behM R i (lastM R R[i])).map rowD))) S := by
  have hb : R[i].sort = .b := by
    unfold isGBm at h
    simp only [Bool.and_eq_true, decide_eq_true_eq] at h
    exact h.1
  refine ⟨by rw [stays_succ hi, if_pos h]; exact x.stays, x.pkind, Nat.le_succ_of_le x.plen, fun j hj hji hs => ?_, fun n => kinds_set (x.bkind n) rfl, Nat.le_trans len_set (Nat.succ_le_succ x.blen), fun a => ?_⟩
  · have : j ≠ i := by rintro rfl; exact hs hb
    exact x.place j hj (by omega) hs
  · rw [get_set, beh_succ hi]
    by_cases ha : lastM R R[i] = a
    · subst ha
      simp [h]
    · have h1 : ¬ Key.i (lastM R R[i] : Nat) = Key.i (a : Int) := by simpa using fun e => ha (by omega)
      rw [if_neg h1, x.behind a]
      simp [ha]
/-- a row that stays -/
theorem MI.stay {R : List Row} {i : Nat} {pk bk : List (Key × D)} {S : List Nat} (g : Good R) (x : MI R i pk bk S) (hi : i < R.length) (h : isGBm R R[i] = false) :
    MI R (i + 1) (if R[i].sort = .b then pk else assocSet pk (.s R[i].name) (.int (i : Int))) bk (S ++ [i]) := by
  refine ⟨by rw [stays_succ hi, h]; simp [x.stays], fun n => ?_, ?_, fun j hj hji hs => ?_, x.bkind, Nat.le_succ_of_le x.blen, fun a => ?_⟩
  · split
    · exact x.pkind n
    · exact kinds_set (x.pkind n) rfl
  · split
    · exact Nat.le_succ_of_le x.plen
    · exact Nat.le_trans len_set (Nat.succ_le_succ x.plen)
  · by_cases hji2 : j = i
    · subst hji2
      rw [if_neg hs, get_set, if_pos rfl]
    · have hlt : j < i := by omega
      split
      · exact x.place j hj hlt hs
      · rename_i hb
        rw [get_set]
        have hne : ¬ Key.s R[i].name = Key.s R[j].name := by
          intro e
          injection e with e
          have := g.uniq i j hi hj e (by rw [kindS_s hb, kindS_s hs])
          omega
        rw [if_neg hne]
        exact x.place j hj hlt hs
  · rw [beh_succ hi, h]
    simpa using x.behind a
end Mine

-- SqG
namespace Mine
open PySem
set_option maxRecDepth 10000
set_option linter.unusedSimpArgs false
set_option linter.unusedVariables false

theorem T11_len : T11 (Str.ofString "len") = none := by kernel_rfl
theorem T11_range : T11 (Str.ofString "range") = none := by kernel_rfl
theorem T11_max : T11 (Str.ofString "max") = none := by kernel_rfl
theorem meth_get {σ : Store} {k : Nat} {bk : List (Key × D)} {a : Nat} (h : σ[k]? = some (.dct bk)) (hk : ∀ n, kindsOk (.i n) bk = true) : evMeth (Str.ofString "get") (.loc k) [.int (a : Int), .lst []] σ = some ((assocGet bk (.i (a : Int))).getD (.lst []), σ) := by
  refine (if_pos rfl).trans ?_
  show (match σ[k]? with
    | some (.lst l) => match methS (Str.ofString "get") l [.int (a : Int), .lst []] with
      | some (d, l') => some (d, σ.set k (.lst l'))
      | none => (methD (Str.ofString "get") (.lst l) [.int (a : Int), .lst []]).map fun d => (d, σ)
    | some b => (methD (Str.ofString "get") b [.int (a : Int), .lst []]).map fun d => (d, σ)
    | none => none) = _
  rw [h]
  show Option.map _ (if Str.ofString "get" = Str.ofString "get" then (if kindsOk (.i (a : Int)) bk = true then some ((assocGet bk (.i (a : Int))).getD (.lst [])) else none) else none) = _
  rw [if_pos rfl, if_pos (hk _)]
  rfl
theorem head_get {l : List (Key × D)} : methHead (Str.ofString "get") (.dct l) = true := by simp only [methHead, decide_true]

theorem moved2 {Γ : Ctx} {σ : Store} {p : D} {R : List Row} (g : Good R) (hR : R.length ≤ 7) (hn : ∀ r ∈ R, r.names.length ≤ 7) (hp : ∀ pk bk S, IsRows (stM σ pk bk S) p R) (q : PM p R σ Γ) :
    ∃ Γ' pk bk, PM p R σ Γ' ∧ MI R R.length pk bk (staysM R R.length) ∧ exSs 58 T11 mv12 (B12.drop 2) Γ (stM σ [] [] []) = exSs 57 T11 mv12 (B12.drop 3) Γ' (stM σ pk bk (staysM R R.length)) := by
  have hRl : (R.map rowD).length ≤ 1000 := by simp; omega
  have key : ∃ Γ' pk bk, PM p R σ Γ' ∧ MI R R.length pk bk (staysM R R.length) ∧ exS 57 T11 mv12 (B12.drop 2).head! Γ (stM σ [] [] []) = some (.next, Γ', stM σ pk bk (staysM R R.length)) := by
    conv in (List.head! _) => whnf
    simp only [eEs_nil, sE_name, kRet_some, sE_call, kC1_bi, kC3_some, sEs_cons, kE1_some, kE2_some, sS_for, kFo_none, kFo1_some, kFo3_some, kFo2_some, fz_call, deref_int, deref_rng, q.rows, (hp [] [] []).d, T11_len, T11_range, bi_len hRl, List.length_map, bi_range, range_items' (show R.length ≤ 1000 by omega)]
    generalize hc : forL (D.rng _) _ _ _ _ _ = c
    obtain ⟨Γ', σ', ⟨q1, pk, bk, q2, q3⟩, rfl⟩ := forL_list' hc (fun i Γ σ' => PM p R σ Γ ∧ ∃ pk bk, MI R i pk bk (staysM R i) ∧ σ' = stM σ pk bk (staysM R i)) ⟨q, [], [], MI.start, rfl⟩ (fun i hi Γ σ' ⟨p1, pk, bk, p2, p3⟩ => by
      subst p3
      have hi' : i < R.length := by simpa using hi
      obtain ⟨r, hr⟩ : ∃ r, r = R[i] := ⟨_, rfl⟩
      have hrn : r.names.length ≤ 7 := by rw [hr]; exact hn _ (List.getElem_mem hi')
      have hP := hp pk bk (staysM R i)
      have hidx : idx (R.map rowD) ((i : Nat) : Int) = some (rowD r) := by rw [hr]; exact idx_at hi' (by omega)
      obtain ⟨g1, hg1⟩ : ∃ x, x = upd (upd (upd (upd (upd Γ (Str.ofString "at") (.int (i : Int))) (Str.ofString "name") (.str r.name)) (Str.ofString "sort") (.str (sortS r.sort))) (Str.ofString "names") (.lst (r.names.map .str))) (Str.ofString "unit") (unitD r) := ⟨_, rfl⟩
      have c1 : g1 (Str.ofString "name") = some (.str r.name) := by rw [hg1]; simp only [upd, ofS_inj, String.reduceEq, if_true, if_false]
      have c2 : g1 (Str.ofString "sort") = some (.str (sortS r.sort)) := by rw [hg1]; simp only [upd, ofS_inj, String.reduceEq, if_true, if_false]
      have c3 : g1 (Str.ofString "names") = some (.lst (r.names.map .str)) := by rw [hg1]; simp only [upd, ofS_inj, String.reduceEq, if_true, if_false]
      have c4 : g1 (Str.ofString "at") = some (.int (i : Int)) := by rw [hg1]; simp only [upd, ofS_inj, String.reduceEq, if_true, if_false]
      have cP : PM p R σ g1 := by rw [hg1]; exact ⟨by simp only [upd, ofS_inj, String.reduceEq, if_false, p1.rows], by simp only [upd, ofS_inj, String.reduceEq, if_false, p1.generics], by simp only [upd, ofS_inj, String.reduceEq, if_false, p1.place], by simp only [upd, ofS_inj, String.reduceEq, if_false, p1.behind], by simp only [upd, ofS_inj, String.reduceEq, if_false, p1.stays]⟩
      by_cases hgb : isGBm R r = true
      · have hgb' : isGBm R R[i] = true := by rw [← hr]; exact hgb
        have mi := p2.gb hi' hgb'
        rw [← hr] at mi
        have hst : staysM R (i + 1) = staysM R i := by rw [stays_succ hi', if_pos hgb']
        have hb : r.sort = .b ∧ r.name ∈ gens R := by
          unfold isGBm at hgb
          simpa using hgb
        have hspec : ∀ n ∈ r.names ++ [r.name], subD (.dct pk) (.str n) = some (.int ((specAt R n : Nat) : Int)) := fun n hnm => by
          have hreq : n ∈ reqNames R[i] := by
            rw [← hr]
            unfold reqNames
            rw [if_pos hb.1]
            rcases List.mem_append.mp hnm with h | h
            · exact List.mem_append_right _ h
            · exact List.mem_append_left _ h
          obtain ⟨j, hj, hji, hjn, hjs, hpl⟩ := req_spec g hi' hreq
          have h1 := p2.place j hj hji hjs
          rw [hjn] at h1
          have h2 : specAt R n = j := by unfold specAt; rw [hpl]; rfl
          simp only [subD, key_str, p2.pkind, if_true, h1, h2]
        have hbl : bk.length ≤ 1000 := by have := p2.blen; omega
        have hw : ((r.names ++ [r.name]).map D.str).length ≤ 1000 := by simp; omega
        have hsum : ((r.names.map D.str).length + 1 ≤ 1000) = True := by simp; omega
        have hil : (intsD ((r.names ++ [r.name]).map (specAt R))).length ≤ 1000 := by rw [intsD_len]; simp; omega
        have hmax := bi_max (l := (r.names ++ [r.name]).map (specAt R)) (by simp) (by simp; omega)
        have hbeh := p2.behind (lastM R r)
        have hbhl : (behM R i (lastM R r)).length ≤ 7 := by
          unfold behM
          rw [List.length_reverse]
          refine Nat.le_trans (List.length_filter_le _ _) ?_
          rw [List.length_take]; omega
        have hget := meth_get (σ := stM σ pk bk (staysM R i)) (k := σ.length + 1) (a := lastM R r) stM_b p2.bkind
        rw [hbeh] at hget
        have hsum2 : (1 + ((behM R i (lastM R r)).map rowD).length ≤ 1000) = True := by simp; omega
        refine ⟨upd Γ (Str.ofString "at") (.int (i : Int)), upd g1 (Str.ofString "last") (.int ((lastM R r : Nat) : Int)), _, by rw [List.getElem_range]; rfl, .inl (exSs_step (Γ1 := g1) (σ1 := stM σ pk bk (staysM R i)) ?_ (exSs_step (Γ1 := upd g1 (Str.ofString "last") (.int ((lastM R r : Nat) : Int))) (σ1 := stM σ pk (assocSet bk (.i (lastM R r : Nat)) (.lst ((r :: behM R i (lastM R r)).map rowD))) (staysM R (i + 1))) ?_ exSs_nil)), rfl, ?_, _, _, hst ▸ mi, rfl⟩
        · simp only [eS_assign, sE_name, kRet_some, kAt2_some, kAc_some, sA_ts, aT_tup, aN_nil, aN_cons, sE_subN, kSub1_some, kSub2_some, kSub3_some, upd, ofS_inj, String.reduceEq, if_true, if_false, sub_lst, p1.rows, hP.d, hidx, rowD]
          rw [hg1]
        · have hcat : r.names.map D.str ++ [D.str r.name] = (r.names ++ [r.name]).map D.str := by simp
          simp only [eE_str, eEs_nil, eT_bool, eS_assign, sE_name, kRet_some, sE_list, kLst_some, sE_bin, kBin1_some, kBin2_some, sE_meth, sE_call, sE_comp, kCo1_some, kCo2_some, kCo3_some, sEs_cons, kE1_some, kE2_some, sT_cmp, kT1_some, kT2_some, kTB_some, sB_nila, sB_and, kBa_t, sA_name, sS_expr, sS_if, kI_some, sSs_cons, tD_name, iD_call, ofS_beq, String.reduceBEq, if_true, if_false, decide_true, Bool.and_true, Bool.and_false, Bool.or_false, Bool.not_false, Bool.false_eq_true, List.contains_cons, List.contains_nil, List.length_cons, List.length_nil, Nat.reduceAdd, Nat.reduceLeDiff, List.map_cons, deref_lst, isLoc_str, cmp_eq_str, bin_add_lst, sort_body, plain_nil, plain_cons, c1, c2, c3, sort_body, hb.1, cP.generics, cmp_in_strs, hb.2, hsum, hcat, items_lst hw, T11_max]
          rw [compL_mapAll D.str (fun n => D.int ((specAt R n : Nat) : Int)) sameAt_lst (r.names ++ [r.name]) (fun n hnm => ?_)]
          · rw [show (r.names ++ [r.name]).map (fun n => D.int ((specAt R n : Nat) : Int)) = intsD ((r.names ++ [r.name]).map (specAt R)) from by unfold intsD; rw [List.map_map]; rfl]
            have hM : maxN ((r.names ++ [r.name]).map (specAt R)) = lastM R r := rfl
            rw [hM] at hmax
            simp only [eEs_nil, eS_assign, eSs_nil, sE_name, kRet_some, sE_list, kLst_some, sE_bin, kBin1_some, kBin2_some, sE_meth, kM1_some, kM2_some, kM3_some, kC1_bi, kC3_some, kCo4_some, sEs_cons, kE1_some, kE2_some, kAe_some, sA_sub, kAs1_some, kAs2_some, kAs3_some, kAs4_some, sSs_cons, kSq_next, sE_subN, kSub1_some, kSub2_some, kSub3_some, upd, ofS_inj, String.reduceEq, if_true, if_false, decide_true, Bool.and_true, Bool.not_false, Bool.false_eq_true, List.length_cons, List.length_nil, Nat.reduceAdd, Nat.reduceLeDiff, Nat.zero_le, deref_lst, isLoc_int, isLoc_lst, isLoc_row, bin_add_lst, sub_lst, plain_nil, plain_cons, hil, hmax, cP.rows, c4, hP.d, hidx, cP.behind, deref_locD stM_b, head_get, hget, hsum2, List.singleton_append, stM_b, key_int, p2.bkind, hbl, stM_setb, hst]
          · simp only [sE_name, kRet_some, compF_app, kF1_some, kF2_some, sB_nila, sG_nil, kG_some, aT_name, sE_subN, kSub1_some, kSub2_some, kSub3_some, upd, ofS_inj, ofS_beq, String.reduceEq, String.reduceBEq, if_true, if_false, capt, List.lookup_cons, Bool.false_eq_true, beq_self_eq_true, isLoc_int, cP.place, deref_locD stM_p, hspec n hnm]
        · exact ⟨by simp only [upd, ofS_inj, String.reduceEq, if_false, cP.rows], by simp only [upd, ofS_inj, String.reduceEq, if_false, cP.generics], by simp only [upd, ofS_inj, String.reduceEq, if_false, cP.place], by simp only [upd, ofS_inj, String.reduceEq, if_false, cP.behind], by simp only [upd, ofS_inj, String.reduceEq, if_false, cP.stays]⟩
      · have hgb' : isGBm R R[i] = false := by rw [← hr]; simpa using hgb
        have mi := p2.stay g hi' hgb'
        rw [← hr] at mi
        have hst : staysM R (i + 1) = staysM R i ++ [i] := by rw [stays_succ hi', hgb']; rfl
        rw [← hst] at mi
        have hsl : (staysM R i).length ≤ 900 := by
          unfold staysM
          exact Nat.le_trans (List.length_filter_le _ _) (by rw [List.length_range]; omega)
        have happ := meth_append (k := σ.length + 2) (σ := stM σ pk bk (staysM R i)) (l := intsD (staysM R i)) (x := .int (i : Int)) stM_s (by rw [intsD_len]; omega) rfl
        rw [show intsD (staysM R i) ++ [D.int (i : Int)] = intsD (staysM R (i + 1)) from by rw [hst, intsD_append]; rfl, stM_sets] at happ
        refine ⟨upd Γ (Str.ofString "at") (.int (i : Int)), g1, _, by rw [List.getElem_range]; rfl, .inl (exSs_step (Γ1 := g1) (σ1 := stM σ pk bk (staysM R i)) ?_ (exSs_step (Γ1 := g1) (σ1 := stM σ (if r.sort = .b then pk else assocSet pk (.s r.name) (.int (i : Int))) bk (staysM R (i + 1))) ?_ exSs_nil)), rfl, cP, _, _, mi, rfl⟩
        · simp only [eS_assign, sE_name, kRet_some, kAt2_some, kAc_some, sA_ts, aT_tup, aN_nil, aN_cons, sE_subN, kSub1_some, kSub2_some, kSub3_some, upd, ofS_inj, String.reduceEq, if_true, if_false, sub_lst, p1.rows, hP.d, hidx, rowD]
          rw [hg1]
        · have hpl : pk.length ≤ 1000 := by have := p2.plen; omega
          by_cases hb : r.sort = .b
          · have hng : r.name ∉ gens R := by
              intro hm
              apply hgb
              unfold isGBm
              simp [hb, hm]
            simp only [eE_str, eEs_nil, eT_bool, eS_assign, eSs_nil, sE_name, kRet_some, sE_bin, sE_meth, kM1_some, kM2_some, kM3_some, sE_call, sE_comp, sEs_cons, kE1_some, kE2_some, sT_cmp, kT1_some, kT2_some, kTB_some, sB_and, kBa_f, kBa_t, sA_name, sA_sub, kAs1_some, kAs2_some, sS_expr, kX_some, sS_if, kI_some, sSs_cons, kSq_next, tD_name, iD_call, ofS_beq, String.reduceBEq, if_true, if_false, decide_true, decide_false, Bool.and_false, Bool.or_false, Bool.not_true, Bool.false_eq_true, List.contains_cons, List.contains_nil, cmp_eq_str, cmp_ne_str, sort_body, c1, c2, c4, cP.generics, cP.stays, sort_body, hb, cmp_in_strs, hng, deref_locL stM_s, head_append, happ, cmp_ne_str]
          · simp only [eE_str, eEs_nil, eT_bool, eS_assign, eSs_nil, sE_name, kRet_some, sE_bin, sE_meth, kM1_some, kM2_some, kM3_some, sE_call, sE_comp, sEs_cons, kE1_some, kE2_some, sT_cmp, kT1_some, kT2_some, kTB_some, sB_and, kBa_f, sA_name, sA_sub, kAs1_some, kAs2_some, kAs3_some, kAs4_some, sS_expr, kX_some, sS_if, kI_some, sSs_cons, kSq_next, tD_name, iD_call, ofS_beq, String.reduceBEq, if_true, if_false, decide_true, decide_false, Bool.and_true, Bool.and_false, Bool.or_false, Bool.not_false, Bool.false_eq_true, List.contains_cons, List.contains_nil, isLoc_int, cmp_eq_str, cmp_ne_str, sort_body, c1, c2, c4, cP.stays, cP.place, sort_body, hb, deref_locL stM_s, head_append, happ, cmp_ne_str, key_str, stM_p, p2.pkind, hpl, stM_setp, isLoc_int])
    simp only [List.length_range] at q2 q3
    subst q3
    exact ⟨Γ', pk, bk, q1, q2, rfl⟩
  obtain ⟨Γ', pk, bk, q1, q2, q3⟩ := key
  refine ⟨Γ', pk, bk, q1, q2, ?_⟩
  conv => lhs; arg 4; whnf
  exact exSs_step q3 rfl
end Mine

-- SqH
namespace Mine
open PySem
set_option maxRecDepth 10000
set_option linter.unusedSimpArgs false
set_option linter.unusedVariables false

theorem compL_flat {α : Type} (enc : α → D) (g : α → List D) {f : D → Store → Option (List D × Store)} {src : D} {σ : Store} (hs : sameAt src σ σ = true) :
    ∀ (R : List α), (∀ r ∈ R, f (enc r) σ = some (g r, σ)) → compL src f (R.map enc) σ = some (R.flatMap g, σ)
  | [], _ => rfl
  | r :: R, h => by
    have h1 := h r List.mem_cons_self
    have ih := compL_flat enc g hs R fun q hq => h q (List.mem_cons_of_mem _ hq)
    simp only [List.map_cons, compL, h1, hs, if_true, ih, List.flatMap_cons]

theorem moved3 {Γ : Ctx} {σ : Store} {p : D} {R : List Row} {pk bk : List (Key × D)} (hR : R.length ≤ 7) (hp : IsRows (stM σ pk bk (staysM R R.length)) p R) (q : PM p R σ Γ) (x : MI R R.length pk bk (staysM R R.length)) (hml : (movedR R).length ≤ 900) :
    exSs 57 T11 mv12 (B12.drop 3) Γ (stM σ pk bk (staysM R R.length)) = some (.ret (.lst ((movedR R).map rowD)), Γ, stM σ pk bk (staysM R R.length)) := by
  have hsl : (intsD (staysM R R.length)).length ≤ 1000 := by
    rw [intsD_len]
    unfold staysM
    exact Nat.le_trans (List.length_filter_le _ _) (by rw [List.length_range]; omega)
  conv => lhs; arg 4; whnf
  apply exSs_ret
  simp only [sE_name, kRet_some, sE_comp, kCo1_some, kCo2_some, kCo3_some, sS_ret, q.stays, deref_locL stM_s, items_loc hsl]
  rw [show intsD (staysM R R.length) = (staysM R R.length).map (fun k : Nat => D.int (k : Int)) from rfl]
  rw [compL_flat (fun k : Nat => D.int (k : Int)) (fun a => (grpM R a).map rowD) (sameAt_self stM_s) (staysM R R.length) (fun a ha => ?_)]
  · have hm : (staysM R R.length).flatMap (fun a => (grpM R a).map rowD) = (movedR R).map rowD := by
      unfold movedR
      rw [List.map_flatMap]
    have hl : ((movedR R).map rowD).length ≤ 1000 := by simp; omega
    rw [hm]
    simp only [kCo4_some, kR_some, if_true, hl]
  · have ha' : a < R.length := by
      unfold staysM at ha
      exact List.mem_range.mp (List.mem_filter.mp ha).1
    have hidx : idx (R.map rowD) ((a : Nat) : Int) = some (rowD R[a]) := idx_at ha' (by omega)
    have hbeh := x.behind a
    have hbhl : (behM R R.length a).length ≤ 7 := by
      unfold behM
      rw [List.length_reverse]
      refine Nat.le_trans (List.length_filter_le _ _) ?_
      rw [List.length_take]; omega
    have hget := meth_get (σ := stM σ pk bk (staysM R R.length)) (k := σ.length + 1) (a := a) stM_b x.bkind
    rw [hbeh] at hget
    have hsum2 : (1 + ((behM R R.length a).map rowD).length ≤ 1000) = True := by simp; omega
    have hgr : rowD R[a] :: (behM R R.length a).map rowD = (grpM R a).map rowD := by
      unfold grpM
      rw [List.getElem?_eq_getElem ha']
      rfl
    have hgl : ((grpM R a).map rowD).length ≤ 1000 := by rw [← hgr]; simp; omega
    simp only [eEs_nil, sE_name, kRet_some, sE_list, kLst_some, sE_bin, kBin1_some, kBin2_some, sE_meth, kM1_some, kM2_some, kM3_some, compF_app, kF1_some, kF2_some, sEs_cons, kE1_some, kE2_some, sB_nila, sG_cons, kG1_some, kG2_some, kG3_some, aT_name, sE_subN, kSub1_some, kSub2_some, kSub3_some, upd, ofS_inj, ofS_beq, String.reduceEq, String.reduceBEq, if_true, if_false, capt, List.lookup_cons, decide_true, Bool.and_true, Bool.not_false, List.length_cons, List.length_nil, Nat.reduceAdd, Nat.reduceLeDiff, Nat.zero_le, beq_self_eq_true, deref_lst, isLoc_row, bin_add_lst, sub_lst, plain_nil, plain_cons, q.rows, q.behind, hp.d, hidx, deref_locD stM_b, head_get, hget, hsum2, List.singleton_append, hgr, items_lst hgl]
    rw [compL_mapAll rowD rowD sameAt_lst (grpM R a) (fun r hr => ?_)]
    simp only [sE_name, kRet_some, compF_app, kF1_some, kF2_some, sB_nila, sG_nil, kG_some, aT_name, upd, ofS_inj, ofS_beq, String.reduceEq, String.reduceBEq, if_true, if_false, capt, List.lookup_cons, Bool.false_eq_true, beq_self_eq_true, isLoc_row]
end Mine

-- SqI
namespace Mine
open PySem
set_option maxRecDepth 10000
set_option linter.unusedSimpArgs false
set_option linter.unusedVariables false

theorem flat_len {α β : Type} {c : Nat} {f : α → List β} : ∀ {l : List α}, (∀ a ∈ l, (f a).length ≤ c) → (l.flatMap f).length ≤ l.length * c
  | [], _ => by simp
  | a :: l, h => by
    have h1 := h a List.mem_cons_self
    have h2 := flat_len (c := c) (f := f) (l := l) fun b hb => h b (List.mem_cons_of_mem _ hb)
    rw [List.flatMap_cons, List.length_append, List.length_cons, Nat.add_mul, Nat.one_mul]
    omega
theorem moved_len {R : List Row} (hR : R.length ≤ 7) : (movedR R).length ≤ 900 := by
  have h1 : ∀ a ∈ staysM R R.length, (grpM R a).length ≤ 8 := by
    intro a _
    unfold grpM
    split
    · unfold behM
      rw [List.length_cons, List.length_reverse]
      have := List.length_filter_le (fun r => isGBm R r && decide (lastM R r = a)) (R.take R.length)
      rw [List.length_take] at this
      omega
    · simp
  have h2 := flat_len h1
  have h3 : (staysM R R.length).length ≤ 7 := by
    unfold staysM
    exact Nat.le_trans (List.length_filter_le _ _) (by rw [List.length_range]; exact hR)
  have h4 := Nat.mul_le_mul_right 8 h3
  unfold movedR
  omega

theorem moved_spec {σ : Store} {p : D} {R : List Row} (g : Good R) (hR : R.length ≤ 7) (hn : ∀ r ∈ R, r.names.length ≤ 7) (hp : ∀ l, IsRows (σ ++ l) p R) :
    fn12 [p] σ = some (.lst ((movedR R).map rowD), σ) := by
  obtain ⟨Γ0, hΓ0⟩ : ∃ Γ, Γ = upd noCtx (Str.ofString "rows") p := ⟨_, rfl⟩
  obtain ⟨Γ1, hΓ1⟩ : ∃ Γ, Γ = upd (upd (upd (upd Γ0 (Str.ofString "place") (.loc σ.length)) (Str.ofString "behind") (.loc (σ.length + 1))) (Str.ofString "stays") (.loc (σ.length + 2))) (Str.ofString "generics") (.lst (strsD (gens R))) := ⟨_, rfl⟩
  have q : PM p R σ Γ1 := by
    rw [hΓ1, hΓ0]
    exact ⟨by simp only [upd, ofS_inj, String.reduceEq, if_true, if_false], by simp only [upd, ofS_inj, String.reduceEq, if_true, if_false], by simp only [upd, ofS_inj, String.reduceEq, if_true, if_false], by simp only [upd, ofS_inj, String.reduceEq, if_true, if_false], by simp only [upd, ofS_inj, String.reduceEq, if_true, if_false]⟩
  have hpM : ∀ pk bk S, IsRows (stM σ pk bk S) p R := fun pk bk S => hp _
  obtain ⟨Γ', pk, bk, q1, q2, q3⟩ := moved2 g hR hn hpM q
  have m1 := moved1 (Γ := upd (upd (upd Γ0 (Str.ofString "place") (.loc σ.length)) (Str.ofString "behind") (.loc (σ.length + 1))) (Str.ofString "stays") (.loc (σ.length + 2))) (σ := stM σ [] [] []) (p := p) (R := R) (by rw [hΓ0]; simp only [upd, ofS_inj, String.reduceEq, if_true, if_false]) (hpM _ _ _) (by omega)
  rw [← hΓ1] at m1
  have m3 := moved3 hR (hpM pk bk _) q1 q2 (moved_len hR)
  have all : exSs 60 T11 mv12 (B12.drop 0) Γ0 σ = some (.ret (.lst ((movedR R).map rowD)), Γ', stM σ pk bk (staysM R R.length)) := by
    rw [moved0, m1, q3, m3]
  unfold fn12 mkFn
  conv in (defOf _ _) => whnf
  refine runFn_of ?_ all ?_
  · rw [hΓ0]; rfl
  · show some (_, (stM σ pk bk (staysM R R.length)).take σ.length) = _
    unfold stM
    rw [List.take_left]
end Mine

-- SqJ
namespace Mine
open PySem
set_option maxRecDepth 10000
set_option linter.unusedSimpArgs false
set_option linter.unusedVariables false

/-! ## the fold of bodies_ahead and the rows of _law_moved -/
theorem stepB_perm {F : List Row} {r : Row} : (stepB F r).Perm (F ++ [r]) := by
  unfold stepB
  have : (F.take (posB F r) ++ [r] ++ F.drop (posB F r)).Perm (F.take (posB F r) ++ F.drop (posB F r) ++ [r]) := by
    rw [List.append_assoc, List.append_assoc]; exact List.Perm.append_left _ List.perm_append_comm
  rwa [List.take_append_drop] at this
theorem foldB_perm : ∀ (R F : List Row), (R.foldl stepB F).Perm (F ++ R)
  | [], F => by simp
  | r :: R, F => by
    have h := foldB_perm R (stepB F r)
    rw [List.foldl_cons]
    refine h.trans ?_
    have h2 : (stepB F r ++ R).Perm ((F ++ [r]) ++ R) := List.Perm.append_right _ stepB_perm
    simpa using h2

theorem le_maxN {x : Nat} : ∀ {l : List Nat}, x ∈ l → x ≤ maxN l
  | [], h => by cases h
  | y :: l, h => by
    simp only [maxN]
    rcases List.mem_cons.mp h with rfl | h
    · omega
    · have := le_maxN h
      omega
theorem maxN_mem : ∀ {l : List Nat}, l ≠ [] → maxN l ∈ l
  | [], h => absurd rfl h
  | [y], _ => by simp [maxN]
  | y :: z :: l, _ => by
    have ih := maxN_mem (l := z :: l) (by simp)
    have e : maxN (y :: z :: l) = max y (maxN (z :: l)) := rfl
    rw [e]
    rcases Nat.le_total y (maxN (z :: l)) with h | h
    · rw [Nat.max_eq_right h]; exact List.mem_cons_of_mem _ ih
    · rw [Nat.max_eq_left h]; exact List.mem_cons_self

theorem cnt_one {α : Type} {p : α → Bool} : ∀ {l : List α} {k : Nat} (hk : k < l.length), (∀ j (hj : j < l.length), p l[j] = true ↔ j = k) → l.countP p = 1
  | [], k, hk, _ => by simp at hk
  | a :: l, 0, hk, h => by
    have h0 : p a = true := (h 0 (by simp)).mpr rfl
    rw [List.countP_cons_of_pos h0]
    have : l.countP p = 0 := by
      rw [List.countP_eq_zero]
      intro b hb hp
      obtain ⟨j, hj, rfl⟩ := List.mem_iff_getElem.mp hb
      have := (h (j + 1) (by simp; omega)).mp (by simpa using hp)
      omega
    omega
  | a :: l, k + 1, hk, h => by
    have h0 : ¬ p a = true := fun e => by
      have := (h 0 (by simp)).mp e
      omega
    rw [List.countP_cons_of_neg h0]
    refine cnt_one (k := k) (by simpa using hk) fun j hj => ?_
    have := h (j + 1) (by simp; omega)
    simpa using this

section
variable {R : List Row}
theorem spec_at (g : Good R) {j : Nat} (hj : j < R.length) (hs : R[j].sort ≠ .b) : specAt R R[j].name = j := by
  unfold specAt; rw [place_at g hj rfl (kindS_s hs)]; rfl
theorem spec_own (g : Good R) {j : Nat} (hj : j < R.length) (hb : R[j].sort = .b) : ∃ k, ∃ hk : k < R.length, k < j ∧ R[k].name = R[j].name ∧ R[k].sort ≠ .b ∧ specAt R R[j].name = k := by
  obtain ⟨k, hk, h1, h2, h3⟩ := g.own j hj hb
  refine ⟨k, hk, h1, h2, h3, ?_⟩
  rw [← h2]; exact spec_at g hk h3
theorem spec_le (g : Good R) {j : Nat} (hj : j < R.length) : specAt R R[j].name ≤ j := by
  by_cases hb : R[j].sort = .b
  · obtain ⟨k, _, h1, _, _, h2⟩ := spec_own g hj hb
    omega
  · rw [spec_at g hj hb]; exact Nat.le_refl _
theorem spec_names (g : Good R) {j : Nat} (hj : j < R.length) {n : Str} (hn : n ∈ R[j].names) : ∃ k, ∃ hk : k < R.length, k < j ∧ R[k].name = n ∧ R[k].sort ≠ .b ∧ specAt R n = k := by
  obtain ⟨k, hk, h1, h2, h3⟩ := g.names j hj n hn
  refine ⟨k, hk, h1, h2, h3, ?_⟩
  rw [← h2]; exact spec_at g hk h3
/-- all that a body wants -/
theorem spec_want (g : Good R) {j : Nat} (hj : j < R.length) (hb : R[j].sort = .b) {n : Str} (hn : n ∈ R[j].names ++ [R[j].name]) : ∃ k, ∃ hk : k < R.length, k < j ∧ R[k].name = n ∧ R[k].sort ≠ .b ∧ specAt R n = k := by
  rcases List.mem_append.mp hn with h | h
  · exact spec_names g hj h
  · simp only [List.mem_singleton] at h
    subst h
    exact spec_own g hj hb
theorem last_at (g : Good R) {j : Nat} (hj : j < R.length) (hb : R[j].sort = .b) : ∃ n ∈ R[j].names ++ [R[j].name], ∃ k, ∃ hk : k < R.length, k < j ∧ R[k].name = n ∧ R[k].sort ≠ .b ∧ specAt R n = k ∧ lastM R R[j] = k := by
  have h := maxN_mem (l := (R[j].names ++ [R[j].name]).map (specAt R)) (by simp)
  obtain ⟨n, h1, h2⟩ := List.mem_map.mp h
  obtain ⟨k, hk, q1, q2, q3, q4⟩ := spec_want g hj hb h1
  exact ⟨n, h1, k, hk, q1, q2, q3, q4, by unfold lastM; rw [← h2]; exact q4⟩
theorem le_last {r : Row} {n : Str} (h : n ∈ r.names ++ [r.name]) : specAt R n ≤ lastM R r := le_maxN (List.mem_map.mpr ⟨n, h, rfl⟩)
theorem gb_body {r : Row} (h : isGBm R r = true) : r.sort = .b := by
  unfold isGBm at h
  simp only [Bool.and_eq_true, decide_eq_true_eq] at h
  exact h.1
theorem mem_gens {n : Str} : n ∈ gens R ↔ ∃ r ∈ R, r.sort = .g ∧ r.name = n := by
  unfold gens
  simp only [List.mem_map, List.mem_filter, decide_eq_true_eq]
  exact ⟨fun ⟨r, ⟨h1, h2⟩, h3⟩ => ⟨r, h1, h2, h3⟩, fun ⟨r, h1, h2, h3⟩ => ⟨r, ⟨h1, h2⟩, h3⟩⟩
theorem mem_stays {i a : Nat} : a ∈ staysM R i ↔ a < i ∧ ∃ h : a < R.length, isGBm R R[a] = false := by
  unfold staysM
  rw [List.mem_filter, List.mem_range]
  constructor
  · rintro ⟨h1, h2⟩
    refine ⟨h1, ?_⟩
    by_cases h : a < R.length
    · rw [List.getElem?_eq_getElem h] at h2
      exact ⟨h, by simpa using h2⟩
    · rw [List.getElem?_eq_none (by omega)] at h2
      cases h2
  · rintro ⟨h1, h, h2⟩
    refine ⟨h1, ?_⟩
    rw [List.getElem?_eq_getElem h]
    simp [h2]
theorem mem_beh {i a : Nat} {q : Row} : q ∈ behM R i a ↔ q ∈ R.take i ∧ isGBm R q = true ∧ lastM R q = a := by
  unfold behM
  rw [List.mem_reverse, List.mem_filter, Bool.and_eq_true, decide_eq_true_eq]

noncomputable def grpI (R : List Row) (i a : Nat) : List Row := match R[a]? with | some r => r :: behM R i a | none => []
noncomputable def mvI (R : List Row) (i : Nat) : List Row := (staysM R i).flatMap (grpI R i)
theorem mvI_all : mvI R R.length = movedR R := rfl
theorem grpI_at {i a : Nat} (h : a < R.length) : grpI R i a = R[a] :: behM R i a := by unfold grpI; rw [List.getElem?_eq_getElem h]

theorem grp_le (g : Good R) {i b : Nat} {q : Row} (hq : q ∈ grpI R i b) : specAt R q.name ≤ b := by
  by_cases h : b < R.length
  · rw [grpI_at h] at hq
    rcases List.mem_cons.mp hq with rfl | hq
    · exact spec_le g h
    · obtain ⟨_, _, h3⟩ := mem_beh.mp hq
      rw [← h3]
      exact le_last (by simp)
  · unfold grpI at hq
    rw [List.getElem?_eq_none (by omega)] at hq
    cases hq

theorem take_next {i : Nat} (hi : i < R.length) : R.take (i + 1) = R.take i ++ [R[i]] := by
  rw [List.take_add_one, List.getElem?_eq_getElem hi]; rfl
theorem beh_next {i a : Nat} (hi : i < R.length) : behM R (i + 1) a = if isGBm R R[i] = true ∧ lastM R R[i] = a then R[i] :: behM R i a else behM R i a := by
  unfold behM
  rw [take_next hi, List.filter_append, List.filter_cons, List.filter_nil]
  by_cases h : isGBm R R[i] = true ∧ lastM R R[i] = a
  · have : (isGBm R R[i] && decide (lastM R R[i] = a)) = true := by simp [h]
    rw [if_pos h, if_pos this, List.reverse_append]; rfl
  · have : ¬ (isGBm R R[i] && decide (lastM R R[i] = a)) = true := by simpa using h
    rw [if_neg h, if_neg this, List.append_nil]
theorem stays_next {i : Nat} (hi : i < R.length) : staysM R (i + 1) = if isGBm R R[i] = true then staysM R i else staysM R i ++ [i] := by
  unfold staysM
  rw [List.range_succ, List.filter_append, List.filter_cons, List.filter_nil, List.getElem?_eq_getElem hi]
  by_cases h : isGBm R R[i] = true
  · rw [if_pos h]; simp [h]
  · rw [if_neg h]; simp [h]
theorem stays_lt {i : Nat} : (staysM R i).Pairwise (· < ·) := List.Pairwise.filter _ List.pairwise_lt_range
end
end Mine

-- SqK
namespace Mine
open PySem
set_option maxRecDepth 10000
set_option linter.unusedSimpArgs false
set_option linter.unusedVariables false

section
variable {R : List Row}
theorem cnt_of {F : List Row} {n : Str} : cntOf (knownF F) n = F.countP fun r => decide (r.name = n) := by
  unfold cntOf knownF
  rw [List.countP_map]; rfl
theorem ix_row {F : List Row} {n : Str} (h : n ∈ knownF F) : ∃ hx : ixOf (knownF F) n < F.length, F[ixOf (knownF F) n].name = n ∧ ∀ j (hj : j < F.length), j < ixOf (knownF F) n → F[j].name ≠ n := by
  have h1 := ix_lt h
  have h2 : ixOf (knownF F) n < F.length := by simpa [knownF] using h1
  refine ⟨h2, ?_, fun j hj hlt => ?_⟩
  · have := List.findIdx_getElem (w := h1)
    have h3 : decide ((knownF F)[ixOf (knownF F) n] = n) = true := this
    simpa [knownF] using h3
  · have := List.not_of_lt_findIdx (p := fun x => decide (x = n)) (xs := knownF F) hlt
    intro e
    rw [decide_eq_false_iff_not] at this
    apply this
    simpa [knownF] using e
theorem known_mem {F : List Row} {n : Str} : n ∈ knownF F ↔ ∃ q ∈ F, q.name = n := by
  unfold knownF; exact List.mem_map

theorem gb_same (g : Good R) {i : Nat} (hi : i < R.length) {F : List Row} (hp : F.Perm (R.take i)) : isGB F R[i] = isGBm R R[i] := by
  have hmem : ∀ {q}, q ∈ F → ∃ j, ∃ hj : j < R.length, j < i ∧ R[j] = q := fun hq => mem_take_get (hp.mem_iff.mp hq)
  by_cases hb : isGBm R R[i] = true
  · rw [hb]
    have hbs := gb_body hb
    have hgen : R[i].name ∈ gens R := by
      unfold isGBm at hb
      simp only [Bool.and_eq_true, decide_eq_true_eq] at hb
      exact hb.2
    obtain ⟨k, hk, hki, hkn, hks, _⟩ := spec_own g hi hbs
    have hcnt : cntOf (knownF F) R[i].name = 1 := by
      rw [cnt_of, hp.countP_eq]
      have hkl : k < (R.take i).length := by rw [List.length_take]; omega
      refine cnt_one hkl fun j hj => ?_
      rw [List.length_take] at hj
      rw [List.getElem_take, decide_eq_true_eq]
      constructor
      · intro hjn
        by_cases hjs : R[j].sort = .b
        · have := g.uniq j i (by omega) hi hjn (by rw [kindS_b hjs, kindS_b hbs])
          omega
        · exact g.uniq j k (by omega) hk (hjn.trans hkn.symm) (by rw [kindS_s hjs, kindS_s hks])
      · rintro rfl; exact hkn
    have hkn' : R[i].name ∈ knownF F := cnt_mem hcnt
    obtain ⟨hx, h1, _⟩ := ix_row hkn'
    obtain ⟨j, hj, hji, hjq⟩ := hmem (List.getElem_mem hx)
    have hjs : R[j].sort ≠ .b := fun e => by
      have := g.uniq j i hj hi (by rw [hjq, h1]) (by rw [kindS_b e, kindS_b hbs])
      omega
    obtain ⟨r, hr, hrs, hrn⟩ := mem_gens.mp hgen
    obtain ⟨m, hm, rfl⟩ := List.mem_iff_getElem.mp hr
    have hms : R[m].sort ≠ .b := by rw [hrs]; exact fun e => by cases e
    have hmj := g.uniq m j hm hj (by rw [hrn, hjq, h1]) (by rw [kindS_s hms, kindS_s hjs])
    subst hmj
    unfold isGB
    rw [hcnt, List.getElem?_eq_getElem hx]
    simp only [← hjq, hrs, decide_true, Bool.and_true]
  · rw [Bool.not_eq_true] at hb
    rw [hb, Bool.eq_false_iff]
    intro h
    unfold isGB at h
    simp only [Bool.and_eq_true, decide_eq_true_eq] at h
    have hkn' : R[i].name ∈ knownF F := cnt_mem h.1
    obtain ⟨hx, h1, _⟩ := ix_row hkn'
    obtain ⟨j, hj, hji, hjq⟩ := hmem (List.getElem_mem hx)
    have h2 := h.2
    rw [List.getElem?_eq_getElem hx, ← hjq] at h2
    simp only [decide_eq_true_eq] at h2
    rw [← hjq] at h1
    by_cases hbs : R[i].sort = .b
    · have : isGBm R R[i] = true := by
        unfold isGBm
        simp only [Bool.and_eq_true, decide_eq_true_eq]
        exact ⟨hbs, mem_gens.mpr ⟨R[j], List.getElem_mem hj, h2, h1⟩⟩
      rw [hb] at this; cases this
    · have := g.uniq j i hj hi h1 (by rw [kindS_s hbs, kindS_s (by rw [h2]; exact fun e => by cases e)])
      omega

theorem beh_nil (g : Good R) {i : Nat} : behM R i i = [] := by
  rw [List.eq_nil_iff_forall_not_mem]
  intro q hq
  obtain ⟨h1, h2, h3⟩ := mem_beh.mp hq
  obtain ⟨j, hj, hji, rfl⟩ := mem_take_get h1
  obtain ⟨_, _, k, _, hk, _, _, _, h4⟩ := last_at g hj (gb_body h2)
  omega

/-- the place where a generic's body is set in -/
theorem pos_at (g : Good R) (hti : ∀ r ∈ R, r.name ≠ Str.ofString "text_io") {i a : Nat} (hi : i < R.length) (hb : R[i].sort = .b) (hla : lastM R R[i] = a) (ha : a < R.length) {L1 L2 : List Nat} (hs : staysM R i = L1 ++ a :: L2) (hp : (mvI R i).Perm (R.take i)) :
    maxN (ixs (mvI R i) R[i]) = (L1.flatMap (grpI R i)).length := by
  have hlt := stays_lt (R := R) (i := i)
  rw [hs, List.pairwise_append] at hlt
  obtain ⟨_, hl2, hl3⟩ := hlt
  have hL1 : ∀ b ∈ L1, b < a := fun b hb => hl3 b hb a List.mem_cons_self
  have hF : mvI R i = L1.flatMap (grpI R i) ++ (R[a] :: (behM R i a ++ L2.flatMap (grpI R i))) := by
    unfold mvI
    rw [hs, List.flatMap_append, List.flatMap_cons, grpI_at ha, List.cons_append]
  have hknown : ∀ n, n ∈ knownF (mvI R i) ↔ ∃ j, ∃ hj : j < R.length, j < i ∧ R[j].name = n := by
    intro n
    rw [known_mem]
    constructor
    · rintro ⟨q, hq, rfl⟩
      obtain ⟨j, hj, hji, rfl⟩ := mem_take_get (hp.mem_iff.mp hq)
      exact ⟨j, hj, hji, rfl⟩
    · rintro ⟨j, hj, hji, rfl⟩
      refine ⟨R[j], hp.mem_iff.mpr ?_, rfl⟩
      rw [List.mem_iff_getElem]
      exact ⟨j, by rw [List.length_take]; omega, by rw [List.getElem_take]⟩
  have hwant : ∀ n ∈ R[i].name :: wantR R[i], n ∈ knownF (mvI R i) → n ∈ R[i].names ++ [R[i].name] := by
    intro n hn hk
    unfold wantR at hn
    simp only [List.mem_cons, List.mem_append, List.not_mem_nil, or_false] at hn ⊢
    rcases hn with h | h | h
    · exact .inr h
    · obtain ⟨j, hj, _, hjn⟩ := (hknown n).mp hk
      exact absurd (hjn.trans h) (hti _ (List.getElem_mem hj))
    · exact .inl h
  -- where the first of a name stands
  have hle : ∀ n ∈ R[i].names ++ [R[i].name], ixOf (knownF (mvI R i)) n ≤ (L1.flatMap (grpI R i)).length := by
    intro n hn
    obtain ⟨k, hk, hki, hkn, hks, hsp⟩ := spec_want g hi hb hn
    have hka : k ≤ a := by rw [← hsp, ← hla]; exact le_last hn
    have hkn' : n ∈ knownF (mvI R i) := (hknown n).mpr ⟨k, hk, hki, hkn⟩
    obtain ⟨hx, h1, h2⟩ := ix_row hkn'
    apply Classical.byContradiction
    intro hgt
    have hkm : k ∈ staysM R i := by
      rw [mem_stays]
      refine ⟨hki, hk, ?_⟩
      rw [Bool.eq_false_iff]
      exact fun e => hks (gb_body e)
    have hocc : ∃ j, ∃ hj : j < (mvI R i).length, j ≤ (L1.flatMap (grpI R i)).length ∧ (mvI R i)[j].name = n := by
      rcases Nat.lt_or_ge k a with hlt | hge
      · have hk1 : k ∈ L1 := by
          rw [hs] at hkm
          rcases List.mem_append.mp hkm with h | h
          · exact h
          · rcases List.mem_cons.mp h with h | h
            · omega
            · rw [List.pairwise_cons] at hl2
              have := hl2.1 k h
              omega
        have : R[k] ∈ L1.flatMap (grpI R i) := by
          rw [List.mem_flatMap]
          exact ⟨k, hk1, by rw [grpI_at hk]; exact List.mem_cons_self⟩
        obtain ⟨j, hj, hje⟩ := List.mem_iff_getElem.mp this
        refine ⟨j, by rw [hF, List.length_append]; omega, by omega, ?_⟩
        simp only [hF]
        rw [List.getElem_append_left hj, hje]
        exact hkn
      · have : k = a := by omega
        subst this
        refine ⟨(L1.flatMap (grpI R i)).length, by rw [hF, List.length_append, List.length_cons]; omega, Nat.le_refl _, ?_⟩
        simp only [hF]
        rw [List.getElem_append_right (Nat.le_refl _)]
        simp only [Nat.sub_self, List.getElem_cons_zero]
        exact hkn
    obtain ⟨j, hj, hjl, hjn⟩ := hocc
    exact h2 j hj (by omega) hjn
  apply Nat.le_antisymm
  · apply maxN_le
    intro x hx
    obtain ⟨n, hn, rfl⟩ := List.mem_map.mp hx
    rw [List.mem_filter, decide_eq_true_eq] at hn
    exact hle n (hwant n hn.1 hn.2)
  · obtain ⟨n, hn, k, hk, hki, hkn, hks, hsp, hlk⟩ := last_at g hi hb
    have hka : k = a := hlk.symm.trans hla
    subst hka
    have hkn' : n ∈ knownF (mvI R i) := (hknown n).mpr ⟨k, hk, hki, hkn⟩
    obtain ⟨hx, h1, h2⟩ := ix_row hkn'
    have hge : (L1.flatMap (grpI R i)).length ≤ ixOf (knownF (mvI R i)) n := by
      apply Classical.byContradiction
      intro hlt'
      have hlt2 : ixOf (knownF (mvI R i)) n < (L1.flatMap (grpI R i)).length := by omega
      have he : (mvI R i)[ixOf (knownF (mvI R i)) n] ∈ L1.flatMap (grpI R i) := by
        have : (mvI R i)[ixOf (knownF (mvI R i)) n]? = (L1.flatMap (grpI R i))[ixOf (knownF (mvI R i)) n]? := by
          conv => lhs; arg 1; rw [hF]
          exact List.getElem?_append_left hlt2
        rw [List.getElem?_eq_getElem hx, List.getElem?_eq_getElem hlt2] at this
        rw [Option.some.inj this]
        exact List.getElem_mem hlt2
      obtain ⟨b, hb1, hb2⟩ := List.mem_flatMap.mp he
      have h3 := grp_le g hb2
      rw [h1, hsp] at h3
      have := hL1 b hb1
      omega
    refine Nat.le_trans hge (le_maxN ?_)
    unfold ixs
    refine List.mem_map.mpr ⟨n, ?_, rfl⟩
    rw [List.mem_filter, decide_eq_true_eq]
    refine ⟨?_, hkn'⟩
    unfold wantR
    simp only [List.mem_cons, List.mem_append, List.not_mem_nil, or_false] at hn ⊢
    rcases hn with h | h
    · exact .inr (.inr h)
    · exact .inl h

theorem mv_step (g : Good R) (hti : ∀ r ∈ R, r.name ≠ Str.ofString "text_io") {i : Nat} (hi : i < R.length) (hp : (mvI R i).Perm (R.take i)) : stepB (mvI R i) R[i] = mvI R (i + 1) := by
  by_cases hb : isGBm R R[i] = true
  · have hbs := gb_body hb
    obtain ⟨n, hn, a, ha, hai, han, has, hasp, hla⟩ := last_at g hi hbs
    have ham : a ∈ staysM R i := by
      rw [mem_stays]
      refine ⟨hai, ha, ?_⟩
      rw [Bool.eq_false_iff]
      exact fun e => has (gb_body e)
    obtain ⟨L1, L2, hs⟩ := List.append_of_mem ham
    have hpos := pos_at g hti hi hbs hla ha hs hp
    have hlt := stays_lt (R := R) (i := i)
    rw [hs, List.pairwise_append] at hlt
    obtain ⟨_, hl2, hl3⟩ := hlt
    have hL1 : ∀ b ∈ L1, b ≠ a := fun b hb e => by
      have := hl3 b hb a List.mem_cons_self
      omega
    have hL2 : ∀ b ∈ L2, b ≠ a := fun b hb e => by
      rw [List.pairwise_cons] at hl2
      have := hl2.1 b hb
      omega
    have hgrp : ∀ b, b ≠ a → grpI R (i + 1) b = grpI R i b := by
      intro b hba
      unfold grpI
      rw [beh_next hi, if_neg (fun e => hba (e.2.symm.trans hla))]
    have hcong : ∀ (l : List Nat), (∀ b ∈ l, b ≠ a) → l.flatMap (grpI R (i + 1)) = l.flatMap (grpI R i) := by
      intro l
      induction l with
      | nil => intro _; rfl
      | cons x l ih =>
        intro h
        rw [List.flatMap_cons, List.flatMap_cons, hgrp x (h x List.mem_cons_self), ih fun b hb => h b (List.mem_cons_of_mem _ hb)]
    have hF : mvI R i = (L1.flatMap (grpI R i) ++ [R[a]]) ++ (behM R i a ++ L2.flatMap (grpI R i)) := by
      unfold mvI
      rw [hs, List.flatMap_append, List.flatMap_cons, grpI_at ha, List.cons_append, List.append_assoc]
      rfl
    have hF2 : mvI R (i + 1) = (L1.flatMap (grpI R i) ++ [R[a]]) ++ [R[i]] ++ (behM R i a ++ L2.flatMap (grpI R i)) := by
      unfold mvI
      rw [stays_next hi, if_pos hb, hs, List.flatMap_append, List.flatMap_cons, hcong L1 hL1, hcong L2 hL2, grpI_at ha, beh_next hi, if_pos ⟨hb, hla⟩]
      simp
    have hP : posB (mvI R i) R[i] = (L1.flatMap (grpI R i) ++ [R[a]]).length := by
      unfold posB
      rw [gb_same g hi hp, if_pos hb, hpos, List.length_append, List.length_singleton]
      omega
    unfold stepB
    rw [hP, hF2]
    conv => lhs; rw [hF]
    rw [List.take_left, List.drop_left]
  · have hP : posB (mvI R i) R[i] = (mvI R i).length := by
      unfold posB
      rw [gb_same g hi hp, if_neg hb]
    unfold stepB
    rw [hP, List.take_length, List.drop_length, List.append_nil]
    have hgrp : ∀ b, grpI R (i + 1) b = grpI R i b := by
      intro b
      unfold grpI
      rw [beh_next hi, if_neg (fun e => hb e.1)]
    have : mvI R (i + 1) = (staysM R i ++ [i]).flatMap (grpI R i) := by
      unfold mvI
      rw [stays_next hi, if_neg hb, show grpI R (i + 1) = grpI R i from funext hgrp]
    rw [this, List.flatMap_append, List.flatMap_cons, List.flatMap_nil, List.append_nil, grpI_at hi, beh_nil g]
    rfl

theorem mv_fold (g : Good R) (hti : ∀ r ∈ R, r.name ≠ Str.ofString "text_io") : ∀ i, i ≤ R.length → (R.take i).foldl stepB [] = mvI R i
  | 0, _ => by simp [mvI, staysM]
  | i + 1, h => by
    have ih := mv_fold g hti i (by omega)
    have hp : (mvI R i).Perm (R.take i) := by
      rw [← ih]
      exact foldB_perm (R.take i) []
    rw [take_next (by omega), List.foldl_append, ih, List.foldl_cons, List.foldl_nil]
    exact mv_step g hti (by omega) hp
theorem moved_fold (g : Good R) (hti : ∀ r ∈ R, r.name ≠ Str.ofString "text_io") : R.foldl stepB [] = movedR R := by
  have := mv_fold g hti R.length (Nat.le_refl _)
  rwa [List.take_length] at this
theorem moved_perm (g : Good R) (hti : ∀ r ∈ R, r.name ≠ Str.ofString "text_io") : (movedR R).Perm R := by
  rw [← moved_fold g hti]
  exact foldB_perm R []
end
end Mine

-- SqL
namespace Mine
open PySem
set_option maxRecDepth 10000
set_option linter.unusedSimpArgs false
set_option linter.unusedVariables false

/-! ## the moved rows are good too -/
noncomputable def ReqOk (L : List Row) : Prop := ∀ (A : List Row) (x : Row) (B : List Row), L = A ++ x :: B → ∀ n ∈ reqNames x, n ∈ aheadR A
theorem ahead_append {A B : List Row} : aheadR (A ++ B) = aheadR A ++ aheadR B := by
  unfold aheadR; rw [List.filter_append, List.map_append]
theorem ReqOk.ins {A0 B0 : List Row} {r : Row} (h : ReqOk (A0 ++ B0)) (hr : ∀ n ∈ reqNames r, n ∈ aheadR A0) : ReqOk (A0 ++ r :: B0) := by
  intro A x B e n hn
  rcases List.append_eq_append_iff.mp e with ⟨a', h1, h2⟩ | ⟨c', h1, h2⟩
  · cases a' with
    | nil =>
      simp only [List.nil_append, List.cons.injEq] at h2
      rw [h1, List.append_nil]
      exact hr n (h2.1 ▸ hn)
    | cons y a' =>
      simp only [List.cons_append, List.cons.injEq] at h2
      have := h (A0 ++ a') x B (by rw [h2.2, List.append_assoc]) n hn
      rw [h1, ahead_append]
      rw [ahead_append] at this
      rcases List.mem_append.mp this with q | q
      · exact List.mem_append_left _ q
      · refine List.mem_append_right _ ?_
        rw [show y :: a' = [y] ++ a' from rfl, ahead_append]
        exact List.mem_append_right _ q
  · cases c' with
    | nil =>
      simp only [List.nil_append, List.cons.injEq] at h2
      rw [List.append_nil] at h1
      rw [← h1]
      exact hr n (h2.1 ▸ hn)
    | cons y c' =>
      simp only [List.cons_append, List.cons.injEq] at h2
      obtain ⟨rfl, _⟩ := h2
      exact h A x (c' ++ B0) (by rw [h1, List.append_assoc]; rfl) n hn

section
variable {R : List Row}
theorem req_ahead (g : Good R) {i : Nat} (hi : i < R.length) {n : Str} (hn : n ∈ reqNames R[i]) : n ∈ aheadR (R.take i) := by
  obtain ⟨j, hj, hji, h1, h2, _⟩ := req_spec g hi hn
  rw [mem_ahead]
  refine ⟨R[j], ?_, h2, h1⟩
  rw [List.mem_iff_getElem]
  exact ⟨j, by rw [List.length_take]; omega, by rw [List.getElem_take]⟩
theorem reqOk_step (g : Good R) {i : Nat} (hi : i < R.length) {F : List Row} (hp : F.Perm (R.take i)) (h : ReqOk F) : ReqOk (stepB F R[i]) := by
  unfold stepB
  rw [List.append_assoc, List.singleton_append]
  refine ReqOk.ins (by rw [List.take_append_drop]; exact h) fun n hn => ?_
  have ha : n ∈ aheadR F := by
    obtain ⟨q, h1, h2, h3⟩ := mem_ahead.mp (req_ahead g hi hn)
    exact mem_ahead.mpr ⟨q, hp.mem_iff.mpr h1, h2, h3⟩
  unfold posB
  by_cases hb : isGB F R[i] = true
  · rw [if_pos hb]
    obtain ⟨q, h1, h2, h3⟩ := mem_ahead.mp ha
    have hk : n ∈ knownF F := known_mem.mpr ⟨q, h1, h3⟩
    obtain ⟨hx, k1, k2⟩ := ix_row hk
    have hix : ixOf (knownF F) n ∈ ixs F R[i] := by
      unfold ixs
      refine List.mem_map.mpr ⟨n, ?_, rfl⟩
      rw [List.mem_filter, decide_eq_true_eq]
      refine ⟨?_, hk⟩
      unfold reqNames at hn
      unfold wantR
      simp only [List.mem_cons]
      rcases List.mem_append.mp hn with hn | hn
      · split at hn
        · exact .inl (by simpa using hn)
        · cases hn
      · exact .inr (.inr hn)
    have hle := le_maxN hix
    rw [mem_ahead]
    refine ⟨F[ixOf (knownF F) n], ?_, fun hbs => ?_, k1⟩
    · rw [List.mem_iff_getElem]
      exact ⟨ixOf (knownF F) n, by rw [List.length_take]; omega, by rw [List.getElem_take]⟩
    · have hsplit : F = F.take (ixOf (knownF F) n) ++ F[ixOf (knownF F) n] :: F.drop (ixOf (knownF F) n + 1) := by
        rw [List.getElem_cons_drop, List.take_append_drop]
      have hreq := h _ _ _ hsplit F[ixOf (knownF F) n].name (by unfold reqNames; rw [if_pos hbs]; simp)
      obtain ⟨p, p1, _, p3⟩ := mem_ahead.mp hreq
      obtain ⟨j, hj, hjl, rfl⟩ := mem_take_get p1
      exact k2 j hj hjl (p3.trans k1)
  · rw [if_neg hb, List.take_length]
    exact ha
theorem reqOk_moved (g : Good R) (hti : ∀ r ∈ R, r.name ≠ Str.ofString "text_io") : ReqOk (movedR R) := by
  have : ∀ i, i ≤ R.length → ReqOk ((R.take i).foldl stepB []) := by
    intro i
    induction i with
    | zero =>
      intro _ A x B e
      simp at e
    | succ i ih =>
      intro h
      rw [take_next (by omega), List.foldl_append, List.foldl_cons, List.foldl_nil]
      exact reqOk_step g (by omega) (foldB_perm (R.take i) []) (ih (by omega))
  have h := this R.length (Nat.le_refl _)
  rw [List.take_length, moved_fold g hti] at h
  exact h
theorem good_moved (g : Good R) (hti : ∀ r ∈ R, r.name ≠ Str.ofString "text_io") : Good (movedR R) := by
  have hp := moved_perm g hti
  have hr := reqOk_moved g hti
  have hsplit : ∀ i (hi : i < (movedR R).length), movedR R = (movedR R).take i ++ (movedR R)[i] :: (movedR R).drop (i + 1) := fun i hi => by
    rw [List.getElem_cons_drop, List.take_append_drop]
  have hpw : (movedR R).Pairwise (fun x y => ¬ (x.name = y.name ∧ kindS x = kindS y)) := by
    rw [hp.pairwise_iff (fun {x y} h e => h ⟨e.1.symm, e.2.symm⟩)]
    rw [List.pairwise_iff_getElem]
    intro i j hi hj hij e
    have := g.uniq i j hi hj e.1 e.2
    omega
  rw [List.pairwise_iff_getElem] at hpw
  refine ⟨fun i j hi hj hn hk => ?_, fun i hi hb => ?_, fun i hi n hn => ?_⟩
  · rcases Nat.lt_trichotomy i j with h | h | h
    · exact absurd ⟨hn, hk⟩ (hpw i j hi hj h)
    · exact h
    · exact absurd ⟨hn.symm, hk.symm⟩ (hpw j i hj hi h)
  · have := hr _ _ _ (hsplit i hi) (movedR R)[i].name (by unfold reqNames; rw [if_pos hb]; simp)
    obtain ⟨q, h1, h2, h3⟩ := mem_ahead.mp this
    obtain ⟨j, hj, hji, rfl⟩ := mem_take_get h1
    exact ⟨j, hj, hji, h3, h2⟩
  · have := hr _ _ _ (hsplit i hi) n (by unfold reqNames; exact List.mem_append_right _ hn)
    obtain ⟨q, h1, h2, h3⟩ := mem_ahead.mp this
    obtain ⟨j, hj, hji, rfl⟩ := mem_take_get h1
    exact ⟨j, hj, hji, h3, h2⟩

/-- those that stay, in their order -/
theorem moved_stays (g : Good R) : (movedR R).filter (fun r => !isGBm R r) = R.filter (fun r => !isGBm R r) := by
  have hgrp : ∀ a ∈ staysM R R.length, (grpM R a).filter (fun r => !isGBm R r) = (R[a]?).toList := by
    intro a ha
    obtain ⟨h1, h2, h3⟩ := mem_stays.mp ha
    unfold grpM
    rw [List.getElem?_eq_getElem h2]
    simp only [Option.toList_some, List.filter_cons, h3, Bool.not_false, if_true]
    have : (behM R R.length a).filter (fun r => !isGBm R r) = [] := by
      rw [List.filter_eq_nil_iff]
      intro q hq
      obtain ⟨_, h5, _⟩ := mem_beh.mp hq
      simp [h5]
    rw [this]
  have h1 : ∀ (l : List Nat), (∀ a ∈ l, (grpM R a).filter (fun r => !isGBm R r) = (R[a]?).toList) → (l.flatMap (grpM R)).filter (fun r => !isGBm R r) = l.filterMap fun a => R[a]? := by
    intro l
    induction l with
    | nil => intro _; rfl
    | cons a l ih =>
      intro h
      rw [List.flatMap_cons, List.filter_append, h a List.mem_cons_self, ih fun b hb => h b (List.mem_cons_of_mem _ hb), List.filterMap_cons]
      cases R[a]? <;> rfl
  unfold movedR
  rw [h1 _ hgrp]
  have h2 : ∀ i, i ≤ R.length → (staysM R i).filterMap (fun a => R[a]?) = (R.take i).filter (fun r => !isGBm R r) := by
    intro i
    induction i with
    | zero => intro _; simp [staysM]
    | succ i ih =>
      intro h
      have hi : i < R.length := by omega
      rw [take_next hi, List.filter_append, ← ih (by omega), stays_next hi]
      by_cases hb : isGBm R R[i] = true
      · rw [if_pos hb]; simp [hb]
      · rw [if_neg hb, List.filterMap_append]; simp [hb, List.getElem?_eq_getElem hi]
  have := h2 R.length (Nat.le_refl _)
  rwa [List.take_length] at this
end
end Mine

-- SqM
namespace Mine
open PySem
set_option maxRecDepth 10000
set_option linter.unusedSimpArgs false
set_option linter.unusedVariables false

/-! ## law's last statements -/
noncomputable abbrev mv15 : List Str := [Str.ofString "bowl", Str.ofString "rows"]
theorem T14_moved : T14 (Str.ofString "_law_moved") = some fn12 := by kernel_rfl
theorem T14_needed : T14 (Str.ofString "_law_needed") = some fn13 := by kernel_rfl
theorem T14_ordered : T14 (Str.ofString "_law_ordered") = some fn14 := by kernel_rfl
theorem T14_bodies : T14 (Str.ofString "bodies_ahead") = some fn3 := by kernel_rfl

section
variable {Γ : Ctx} {σ : Store} {R M P S : List Row} {p : D} {main : Str} {ix : List Nat}
theorem law2 (h1 : Γ (Str.ofString "rows") = some (.loc 1)) (hm : fn12 [.loc 1] σ = some (.lst (M.map rowD), σ)) :
    exSs 58 T14 mv15 (B15.drop 2) Γ σ = exSs 57 T14 mv15 (B15.drop 3) (upd Γ (Str.ofString "due") (.lst (M.map rowD))) σ := by
  conv => lhs; arg 4; whnf
  refine exSs_step ?_ rfl
  simp only [eEs_nil, eS_assign, sE_name, kRet_some, sE_call, kC1_fn, sEs_cons, kE1_some, kE2_some, sA_name, kAe_some, tD_name, iD_call, ofS_beq, String.reduceBEq, if_false, Bool.and_false, Bool.or_false, Bool.false_eq_true, List.contains_cons, List.contains_nil, isLoc_lst, h1, T14_moved, hm]

theorem law3 (h1 : Γ (Str.ofString "rows") = some p) (hp : IsRows σ p R) (h2 : Γ (Str.ofString "due") = some (.lst (M.map rowD))) (hR : R.length ≤ 900) (hM : M.length ≤ 900) (hb : fn3 [.lst (R.map unitD)] σ = some (.lst (M.map unitD), σ)) :
    exSs 57 T14 mv15 (B15.drop 3) Γ σ = exSs 56 T14 mv15 (B15.drop 4) Γ σ := by
  have hRl : (R.map unitD).length ≤ 1000 := by simp; omega
  have hMl : (M.map unitD).length ≤ 1000 := by simp; omega
  have hMr : (M.map rowD).length ≤ 1000 := by simp; omega
  conv => lhs; arg 4; whnf
  refine exSs_step ?_ rfl
  simp only [sE_name, kRet_some, sE_call, sE_comp, kCo1_some, kCo2_some, kCo3_some, sEs_cons, sT_cmp, sS_if, h1, hp.d, hp.it]
  rw [compL_mapAll rowD unitD hp.same R (fun r hr => ?_)]
  · simp only [eEs_nil, sE_name, kRet_some, kC1_fn, sE_comp, kCo1_some, kCo2_some, kCo3_some, kCo4_some, kE1_some, kE2_some, kT1_some, if_true, deref_lst, hRl, T14_bodies, hb, h2, items_lst hMr]
    rw [compL_mapAll rowD unitD sameAt_lst M (fun r hr => ?_)]
    · simp only [eE_bool, eSs_nil, kCo4_some, kT2_some, kTB_some, sS_ret, kR_some, kI_some, sSs_cons, kSq_ret, if_true, if_false, Bool.false_eq_true, hMl, cmp_ne_units]
    · simp only [eE_int, sE_name, kRet_some, compF_app, kF1_some, kF2_some, sB_nila, sG_nil, kG_some, aT_name, kSub1_some, kSub2_some, kSub3_some, sE_subC, upd, ofS_beq, String.reduceBEq, if_true, if_false, capt, List.lookup_cons, Bool.false_eq_true, beq_self_eq_true, deref_row, sub_row3, isLoc_unit]
  · simp only [eE_int, sE_name, kRet_some, compF_app, kF1_some, kF2_some, sB_nila, sG_nil, kG_some, aT_name, kSub1_some, kSub2_some, kSub3_some, sE_subC, upd, ofS_beq, String.reduceBEq, if_true, if_false, capt, List.lookup_cons, Bool.false_eq_true, beq_self_eq_true, deref_row, sub_row3, isLoc_unit]

theorem law4 (h2 : Γ (Str.ofString "due") = some (.lst (M.map rowD))) (hn : fn13 [.lst (M.map rowD)] σ = some (.tup [.lst (intsD ix), .str main], σ)) :
    exSs 56 T14 mv15 (B15.drop 4) Γ σ = exSs 55 T14 mv15 (B15.drop 5) (upd (upd Γ (Str.ofString "needed") (.lst (intsD ix))) (Str.ofString "main") (.str main)) σ := by
  conv => lhs; arg 4; whnf
  refine exSs_step ?_ rfl
  simp only [eEs_nil, eS_assign, sE_name, kRet_some, sE_call, kC1_fn, sEs_cons, kE1_some, kE2_some, kAt2_some, sA_tc, kAc_some, aT_tup, aN_nil, aN_cons, h2, T14_needed, hn]

theorem cmp_in_rows' {a : Row} {l : List Row} : cmpD σ .In (rowD a) (.lst (l.map rowD)) = some (decide (a ∈ l)) := cmp_in_rows (deref_lst)
noncomputable def rowAt (L : List Row) (a : Nat) : D := match L[a]? with | some r => rowD r | none => D.nil
theorem rowAt_at {a : Nat} (h : a < M.length) : rowAt M a = rowD M[a] := by unfold rowAt; rw [List.getElem?_eq_getElem h]
theorem rowAt_map (h : ∀ a ∈ ix, a < M.length) : ix.map (rowAt M) = (pick M ix).map rowD := pick_map h
theorem pick_len (h : ix.length ≤ 900) : ((pick M ix).map rowD).length ≤ 1000 := by
  rw [List.length_map]
  exact Nat.le_trans (List.length_filterMap_le _ _) (by omega)

theorem law5 (h2 : Γ (Str.ofString "due") = some (.lst (M.map rowD))) (h3 : Γ (Str.ofString "needed") = some (.lst (intsD ix))) (h4 : Γ (Str.ofString "main") = some (.str main)) (hM : M.length ≤ 900) (hix : ix.length ≤ 900) (hlt : ∀ a ∈ ix, a < M.length)
    (ho : fn14 [.lst (M.map rowD), .str main] σ = some (.lst ((pick M ix).map rowD), σ)) :
    exSs 55 T14 mv15 (B15.drop 5) Γ σ = exSs 54 T14 mv15 (B15.drop 6) Γ σ := by
  have hixl : (intsD ix).length ≤ 1000 := by rw [intsD_len]; omega
  have hpl := pick_len (M := M) hix
  conv => lhs; arg 4; whnf
  refine exSs_step ?_ rfl
  simp only [eEs_nil, sE_name, kRet_some, sE_call, kC1_fn, sE_comp, kCo1_some, kCo2_some, kCo3_some, sEs_cons, kE1_some, kE2_some, sT_cmp, kT1_some, sS_if, deref_lst, h2, h4, T14_ordered, ho, h3, items_lst hixl]
  rw [show intsD ix = ix.map (fun k : Nat => D.int (k : Int)) from rfl]
  rw [compL_mapAll (fun k : Nat => D.int (k : Int)) (rowAt M) sameAt_lst ix (fun a ha => ?_), rowAt_map hlt]
  · simp only [eE_bool, eSs_nil, kCo4_some, kT2_some, kTB_some, sS_ret, kR_some, kI_some, sSs_cons, kSq_ret, if_true, if_false, Bool.false_eq_true, hpl, cmp_ne_rows]
  · have hal := hlt a ha
    have hidx : idx (M.map rowD) (a : Int) = some (rowD M[a]) := idx_at hal (by omega)
    simp only [sE_name, kRet_some, compF_app, kF1_some, kF2_some, sB_nila, sG_nil, kG_some, aT_name, sE_subN, kSub1_some, kSub2_some, kSub3_some, upd, ofS_inj, ofS_beq, String.reduceEq, String.reduceBEq, if_true, if_false, capt, List.lookup_cons, Bool.false_eq_true, beq_self_eq_true, deref_lst, isLoc_row, sub_lst, h2, hidx, rowAt_at hal]

theorem law6 (h1 : Γ (Str.ofString "rows") = some (.loc 1)) (hn : fn13 [.loc 1] σ = some (.tup [.lst (intsD ix), .str main], σ)) :
    exSs 54 T14 mv15 (B15.drop 6) Γ σ = exSs 53 T14 mv15 (B15.drop 7) (upd (upd Γ (Str.ofString "needed") (.lst (intsD ix))) (Str.ofString "main") (.str main)) σ := by
  conv => lhs; arg 4; whnf
  refine exSs_step ?_ rfl
  simp only [eEs_nil, eS_assign, sE_name, kRet_some, sE_call, kC1_fn, sEs_cons, kE1_some, kE2_some, kAt2_some, sA_tc, kAc_some, aT_tup, aN_nil, aN_cons, h1, T14_needed, hn]

theorem law7 (h1 : Γ (Str.ofString "rows") = some (.loc 1)) (h4 : Γ (Str.ofString "main") = some (.str main)) (ho : fn14 [.loc 1, .str main] σ = some (.lst (P.map rowD), σ)) :
    exSs 53 T14 mv15 (B15.drop 7) Γ σ = exSs 52 T14 mv15 (B15.drop 8) (upd Γ (Str.ofString "plain") (.lst (P.map rowD))) σ := by
  conv => lhs; arg 4; whnf
  refine exSs_step ?_ rfl
  simp only [eEs_nil, eS_assign, sE_name, kRet_some, sE_call, kC1_fn, sEs_cons, kE1_some, kE2_some, sA_name, kAe_some, tD_name, iD_call, ofS_beq, String.reduceBEq, if_false, Bool.and_false, Bool.or_false, Bool.false_eq_true, List.contains_cons, List.contains_nil, isLoc_lst, h1, h4, T14_ordered, ho]

theorem law8 (h1 : Γ (Str.ofString "rows") = some p) (hp : IsRows σ p R) (hR : R.length ≤ 900) :
    exSs 52 T14 mv15 (B15.drop 8) Γ σ = exSs 51 T14 mv15 (B15.drop 9) (upd Γ (Str.ofString "generics") (.lst (strsD (gens R)))) σ := by
  have hl : (strsD (gens R)).length ≤ 1000 := by
    unfold strsD gens
    rw [List.length_map, List.length_map]
    exact Nat.le_trans (List.length_filter_le _ _) (by omega)
  conv => lhs; arg 4; whnf
  refine exSs_step ?_ rfl
  simp only [eS_assign, sE_name, kRet_some, sE_comp, kCo1_some, kCo2_some, kCo3_some, sA_name, tD_name, iD_comp, ofS_beq, String.reduceBEq, if_false, Bool.and_false, Bool.or_false, Bool.false_eq_true, List.contains_cons, List.contains_nil, h1, hp.d, hp.it]
  rw [compL_map rowD (fun r => decide (r.sort = .g)) (fun r => .str r.name) hp.same R (fun r hr => ?_)]
  · rw [show (R.filter fun r => decide (r.sort = .g)).map (fun r => D.str r.name) = strsD (gens R) from by unfold gens strsD; rw [List.map_map]; rfl]
    simp only [hl, kCo4_some, kAe_some, if_true, if_false, Bool.false_eq_true, isLoc_lst]
  · have hs : decide (sortS r.sort = Str.ofString "generic") = decide (r.sort = .g) := by cases r.sort <;> simp [sortS, ofS_inj]
    simp only [eE_int, eE_str, sE_name, kRet_some, compF_app, kF1_some, sT_cmp, kT1_some, kT2_some, kTB_some, sB_and, aT_name, kSub1_some, kSub2_some, kSub3_some, sE_subC, upd, ofS_beq, String.reduceBEq, if_true, capt, List.lookup_cons, beq_self_eq_true, deref_row, cmp_eq_str, sub_row1, hs]
    by_cases h : r.sort = .g <;> simp only [h, eE_int, sE_name, kRet_some, kF2_some, sB_nila, kBa_f, kBa_t, sG_nil, kG_some, kSub1_some, kSub2_some, kSub3_some, sE_subC, upd, ofS_beq, String.reduceBEq, if_true, if_false, capt, List.lookup_cons, decide_true, decide_false, Bool.false_eq_true, beq_self_eq_true, deref_row, isLoc_str, sub_row0]

theorem law9 (h2 : Γ (Str.ofString "due") = some (.lst (M.map rowD))) (h5 : Γ (Str.ofString "generics") = some (.lst (strsD (gens R)))) (hM : M.length ≤ 900) :
    exSs 51 T14 mv15 (B15.drop 9) Γ σ = exSs 50 T14 mv15 (B15.drop 10) (upd Γ (Str.ofString "stays") (.lst ((M.filter fun r => !isGBm R r).map rowD))) σ := by
  have hMr : (M.map rowD).length ≤ 1000 := by simp; omega
  have hl : ((M.filter fun r => !isGBm R r).map rowD).length ≤ 1000 := by
    rw [List.length_map]
    exact Nat.le_trans (List.length_filter_le _ _) (by omega)
  conv => lhs; arg 4; whnf
  refine exSs_step ?_ rfl
  simp only [eS_assign, sE_name, kRet_some, sE_comp, kCo1_some, kCo2_some, kCo3_some, sA_name, tD_name, iD_comp, ofS_beq, String.reduceBEq, if_false, Bool.and_false, Bool.or_false, Bool.false_eq_true, List.contains_cons, List.contains_nil, deref_lst, h2, items_lst hMr]
  rw [compL_map rowD (fun r => !isGBm R r) rowD sameAt_lst M (fun r hr => ?_)]
  · simp only [hl, kCo4_some, kAe_some, if_true, if_false, Bool.false_eq_true, isLoc_lst]
  · unfold isGBm
    by_cases ha : r.sort = .b
    · by_cases hb : r.name ∈ gens R <;> simp only [ha, hb, cmp_ne_str, sort_body, h5, cmp_notin_strs, eE_int, eE_str, eT_bool, sE_name, kRet_some, compF_app, kF1_some, kF2_some, sT_cmp, kT1_some, kT2_some, kTB_some, sB_nila, sB_nilo, sB_and, sB_or, kBa_f, kBa_t, kBo_f, kBo_t, sG_nil, kG_some, aT_name, kSub1_some, kSub2_some, kSub3_some, sE_subC, upd, ofS_inj, ofS_beq, String.reduceEq, String.reduceBEq, if_true, if_false, capt, List.lookup_cons, decide_true, decide_false, Bool.and_true, Bool.and_false, Bool.not_true, Bool.not_false, Bool.false_eq_true, beq_self_eq_true, deref_row, isLoc_row, cmp_ne_str, sub_row0, sub_row1, sort_body]
    · simp only [ha, cmp_ne_str, sort_body, eE_int, eE_str, eT_bool, sE_name, kRet_some, compF_app, kF1_some, kF2_some, sT_cmp, kT1_some, kT2_some, kTB_some, sB_nila, sB_and, sB_or, kBa_t, kBo_t, sG_nil, kG_some, aT_name, kSub1_some, kSub2_some, kSub3_some, sE_subC, upd, ofS_beq, String.reduceBEq, if_true, if_false, capt, List.lookup_cons, decide_false, Bool.false_and, Bool.not_false, Bool.false_eq_true, beq_self_eq_true, deref_row, isLoc_row, cmp_ne_str, sub_row1, sort_body]

theorem law10 (h1 : Γ (Str.ofString "rows") = some p) (hp : IsRows σ p R) (h3 : Γ (Str.ofString "needed") = some (.lst (intsD ix))) (h6 : Γ (Str.ofString "plain") = some (.lst ((pick R ix).map rowD))) (h7 : Γ (Str.ofString "stays") = some (.lst (S.map rowD))) (hR : R.length ≤ 900) (hix : ix.length ≤ 900) (hlt : ∀ a ∈ ix, a < R.length) (hS : S.length ≤ 900)
    (he : ((pick R ix).filter fun r => decide (r ∈ S)) = S.filter fun r => decide (r ∈ pick R ix)) :
    exSs 50 T14 mv15 (B15.drop 10) Γ σ = some (.ret (.bool true), Γ, σ) := by
  have hixl : (intsD ix).length ≤ 1000 := by rw [intsD_len]; omega
  have hpl := pick_len (M := R) hix
  have hSr : (S.map rowD).length ≤ 1000 := by simp; omega
  have hf1 : ((S.filter fun r => decide (r ∈ pick R ix)).map rowD).length ≤ 1000 := by
    rw [List.length_map]
    exact Nat.le_trans (List.length_filter_le _ _) (by omega)
  conv => lhs; arg 4; whnf
  apply exSs_ret
  simp only [eE_boolop, sE_name, kRet_some, sE_cmp, kCmp1_some, sE_comp, kCo1_some, kCo2_some, kCo3_some, sV_and, sS_ret, deref_lst, h6, h3, items_lst hixl]
  rw [show intsD ix = ix.map (fun k : Nat => D.int (k : Int)) from rfl]
  rw [compL_mapAll (fun k : Nat => D.int (k : Int)) (rowAt R) sameAt_lst ix (fun a ha => ?_), rowAt_map hlt]
  · simp only [eV_one, sE_name, kRet_some, sE_cmp, kCmp2_some, kB_some, sE_comp, kCo1_some, kCo2_some, kCo3_some, kCo4_some, kVa_t, if_true, deref_lst, hpl, cmp_eq_rows, h6, items_lst hpl]
    rw [compL_map rowD (fun r => decide (r ∈ S)) rowD sameAt_lst (pick R ix) (fun r hr => ?_), he]
    · simp only [sE_name, kRet_some, kCmp1_some, sE_comp, kCo1_some, kCo2_some, kCo3_some, kCo4_some, if_true, deref_lst, hf1, h7, items_lst hSr]
      rw [compL_map rowD (fun r => decide (r ∈ pick R ix)) rowD sameAt_lst S (fun r hr => ?_)]
      · simp only [kCmp2_some, kB_some, kCo4_some, kR_some, if_true, hf1, cmp_eq_rows]
      · simp only [sE_name, kRet_some, compF_app, kF1_some, sT_cmp, kT1_some, kT2_some, kTB_some, sB_and, aT_name, upd, ofS_inj, ofS_beq, String.reduceEq, String.reduceBEq, if_true, if_false, capt, List.lookup_cons, beq_self_eq_true, h6, cmp_in_rows']
        by_cases ha : r ∈ pick R ix <;> simp only [ha, sE_name, kRet_some, kF2_some, sB_nila, kBa_f, kBa_t, sG_nil, kG_some, upd, ofS_beq, String.reduceBEq, if_true, if_false, capt, List.lookup_cons, decide_true, decide_false, Bool.false_eq_true, beq_self_eq_true, isLoc_row]
    · simp only [sE_name, kRet_some, compF_app, kF1_some, sT_cmp, kT1_some, kT2_some, kTB_some, sB_and, aT_name, upd, ofS_inj, ofS_beq, String.reduceEq, String.reduceBEq, if_true, if_false, capt, List.lookup_cons, beq_self_eq_true, h7, cmp_in_rows']
      by_cases ha : r ∈ S <;> simp only [ha, sE_name, kRet_some, kF2_some, sB_nila, kBa_f, kBa_t, sG_nil, kG_some, upd, ofS_beq, String.reduceBEq, if_true, if_false, capt, List.lookup_cons, decide_true, decide_false, Bool.false_eq_true, beq_self_eq_true, isLoc_row]
  · have hal := hlt a ha
    have hidx : idx (R.map rowD) (a : Int) = some (rowD R[a]) := idx_at hal (by omega)
    simp only [sE_name, kRet_some, compF_app, kF1_some, kF2_some, sB_nila, sG_nil, kG_some, aT_name, sE_subN, kSub1_some, kSub2_some, kSub3_some, upd, ofS_inj, ofS_beq, String.reduceEq, String.reduceBEq, if_true, if_false, capt, List.lookup_cons, Bool.false_eq_true, beq_self_eq_true, isLoc_row, sub_lst, h1, hp.d, hidx, rowAt_at hal]
end
end Mine

-- SqN
namespace Mine
open PySem
set_option maxRecDepth 10000
set_option linter.unusedSimpArgs false
set_option linter.unusedVariables false

theorem valid_text {R : List Row} (v : Valid R) (g : Good R) (hR : R.length ≤ 7) : ∀ r ∈ R, r.name ≠ Str.ofString "text_io" := by
  have spec : ∀ i (hi : i < R.length), R[i].sort ≠ .b → R[i].name ≠ Str.ofString "text_io" := by
    intro i hi hb
    rcases (valid_get v i hi).kind with ⟨_, h⟩ | ⟨h, _⟩
    · rw [h]; exact u_text (by omega)
    · exact absurd h hb
  intro r hr
  obtain ⟨i, hi, rfl⟩ := List.mem_iff_getElem.mp hr
  by_cases hb : R[i].sort = .b
  · obtain ⟨j, hj, _, h1, h2⟩ := g.own i hi hb
    rw [← h1]
    exact spec j hj h2
  · exact spec i hi hb

theorem pick_filter {L : List Row} {c : Row → Bool} : pick L ((List.range L.length).filter fun a => match L[a]? with | some r => c r | none => false) = L.filter c := by
  have h2 : ∀ i, i ≤ L.length → ((List.range i).filter fun a => match L[a]? with | some r => c r | none => false).filterMap (fun a => L[a]?) = (L.take i).filter c := by
    intro i
    induction i with
    | zero => intro _; simp
    | succ i ih =>
      intro h
      have hi : i < L.length := by omega
      rw [take_next hi, List.filter_append, ← ih (by omega), List.range_succ, List.filter_append, List.filterMap_append]
      congr 1
      by_cases hb : c L[i] = true
      · simp [hb, List.getElem?_eq_getElem hi]
      · simp [hb, List.getElem?_eq_getElem hi]
  have := h2 L.length (Nat.le_refl _)
  rwa [List.take_length] at this
theorem pick_name {L : List Row} {W : List Str} : pick L (nameIx L W) = L.filter fun r => decide (r.name ∈ W) := pick_filter
theorem name_lt {L : List Row} {W : List Str} : ∀ a ∈ nameIx L W, a < L.length := fun a ha => List.mem_range.mp (List.mem_filter.mp ha).1
theorem name_len {L : List Row} {W : List Str} : (nameIx L W).length ≤ L.length := Nat.le_trans (List.length_filter_le _ _) (by rw [List.length_range]; exact Nat.le_refl _)
theorem both_same {L : List Row} {p q : Row → Bool} : ((L.filter p).filter fun r => decide (r ∈ L.filter q)) = (L.filter q).filter fun r => decide (r ∈ L.filter p) := by
  rw [List.filter_filter, List.filter_filter]
  apply List.filter_congr
  intro r hr
  rw [Bool.eq_iff_iff]
  simp only [Bool.and_eq_true, decide_eq_true_eq, List.mem_filter, hr, true_and]
  exact And.comm

theorem ahead_some {R : List Row} (g : Good R) (h : 0 < R.length) : ∃ n, n ∈ aheadR R := by
  refine ⟨R[0].name, mem_ahead.mpr ⟨R[0], List.getElem_mem h, fun e => ?_, rfl⟩⟩
  obtain ⟨j, _, hj, _⟩ := g.own 0 h e
  omega
theorem place_main {L : List Row} (g : Good L) {n : Str} (h : n ∈ aheadR L) : ∃ m, place L n (Str.ofString "spec") = some m := by
  obtain ⟨r, hr, hs, hn⟩ := mem_ahead.mp h
  obtain ⟨i, hi, rfl⟩ := List.mem_iff_getElem.mp hr
  exact ⟨i, place_at g hi hn (kindS_s hs)⟩

/-- one half of law: what is needed, and what order_parts takes of it -/
theorem half {σ : Store} {p : D} {L : List Row} (hp : IsRows σ p L) (g : Good L) (hL : L.length ≤ 7) (h0 : 0 < L.length) (hnd : ∀ r ∈ L, r.names.Nodup) :
    ∃ W main, fn13 [p] σ = some (.tup [.lst (intsD (nameIx L W)), .str main], σ) ∧ fn14 [p, .str main] σ = some (.lst ((pick L (nameIx L W)).map rowD), σ) := by
  have hn := names_len g hL hnd
  obtain ⟨n, hna⟩ := ahead_some g h0
  obtain ⟨A, main, hA⟩ : ∃ A main, aheadR L = A ++ [main] := by
    rcases List.eq_nil_or_concat (aheadR L) with h | ⟨A, m, h⟩
    · rw [h] at hna; cases hna
    · exact ⟨A, m, by simpa using h⟩
  obtain ⟨W, hW, hc, h13⟩ := needed_spec hp hL hn hnd (ahead_sub g) hA
  obtain ⟨m, hm⟩ := place_main g (n := main) (by rw [hA]; simp)
  obtain ⟨V, hV, h14⟩ := ordered_spec hp g hL hn hm
  rw [reach_name g hm hV hW hc] at h14
  exact ⟨W, main, h13, h14⟩

theorem law_end {Γ : Ctx} {row : List Int} {k : Int} {R : List Row} (hP : PB Γ) (h2 : 2 ≤ R.length) (hR : R.length ≤ 7) (v : Valid R) :
    ∃ Γ', exSs 58 T14 mv15 (B15.drop 2) Γ (lawSt k row R) = some (.ret (.bool true), Γ', lawSt k row R) := by
  have g := valid_good v hR
  have hti := valid_text v g hR
  have hnd := valid_names v g
  have hn := names_len g hR hnd
  have perm := moved_perm g hti
  have gM := good_moved g hti
  have hML : (movedR R).length = R.length := perm.length_eq
  have hndM : ∀ r ∈ movedR R, r.names.Nodup := fun r hr => hnd r (perm.mem_iff.mp hr)
  have hloc : ∀ l, IsRows (lawSt k row R ++ l) (.loc 1) R := fun l => IsRows.loc (by omega) rfl
  have hrow : IsRows (lawSt k row R) (.loc 1) R := IsRows.loc (by omega) rfl
  have hdue : IsRows (lawSt k row R) (.lst ((movedR R).map rowD)) (movedR R) := IsRows.lst (by omega)
  have hm := moved_spec (σ := lawSt k row R) g hR hn hloc
  have hb := bodies_spec (σ := lawSt k row R) hR hn
  rw [moved_fold g hti] at hb
  obtain ⟨W, main, n1, o1⟩ := half hdue gM (by omega) (by omega) hndM
  obtain ⟨W', main', n2, o2⟩ := half hrow g hR (by omega) hnd
  have l1 := name_len (L := movedR R) (W := W)
  have l2 := name_len (L := R) (W := W')
  obtain ⟨Γ1, e1⟩ : ∃ Γ1, Γ1 = upd Γ (Str.ofString "due") (.lst ((movedR R).map rowD)) := ⟨_, rfl⟩
  obtain ⟨Γ2, e2⟩ : ∃ Γ2, Γ2 = upd (upd Γ1 (Str.ofString "needed") (.lst (intsD (nameIx (movedR R) W)))) (Str.ofString "main") (.str main) := ⟨_, rfl⟩
  obtain ⟨Γ3, e3⟩ : ∃ Γ3, Γ3 = upd (upd Γ2 (Str.ofString "needed") (.lst (intsD (nameIx R W')))) (Str.ofString "main") (.str main') := ⟨_, rfl⟩
  obtain ⟨Γ4, e4⟩ : ∃ Γ4, Γ4 = upd Γ3 (Str.ofString "plain") (.lst ((pick R (nameIx R W')).map rowD)) := ⟨_, rfl⟩
  obtain ⟨Γ5, e5⟩ : ∃ Γ5, Γ5 = upd Γ4 (Str.ofString "generics") (.lst (strsD (gens R))) := ⟨_, rfl⟩
  obtain ⟨Γ6, e6⟩ : ∃ Γ6, Γ6 = upd Γ5 (Str.ofString "stays") (.lst (((movedR R).filter fun r => !isGBm R r).map rowD)) := ⟨_, rfl⟩
  have r1 : Γ1 (Str.ofString "rows") = some (.loc 1) := by rw [e1]; simp only [upd, ofS_inj, String.reduceEq, if_false, hP.2]
  have d1 : Γ1 (Str.ofString "due") = some (.lst ((movedR R).map rowD)) := by rw [e1]; simp only [upd, if_true]
  have r2 : Γ2 (Str.ofString "rows") = some (.loc 1) := by rw [e2]; simp only [upd, ofS_inj, String.reduceEq, if_false, r1]
  have d2 : Γ2 (Str.ofString "due") = some (.lst ((movedR R).map rowD)) := by rw [e2]; simp only [upd, ofS_inj, String.reduceEq, if_false, d1]
  have n2' : Γ2 (Str.ofString "needed") = some (.lst (intsD (nameIx (movedR R) W))) := by rw [e2]; simp only [upd, ofS_inj, String.reduceEq, if_true, if_false]
  have m2 : Γ2 (Str.ofString "main") = some (.str main) := by rw [e2]; simp only [upd, ofS_inj, String.reduceEq, if_true, if_false]
  have r3 : Γ3 (Str.ofString "rows") = some (.loc 1) := by rw [e3]; simp only [upd, ofS_inj, String.reduceEq, if_false, r2]
  have d3 : Γ3 (Str.ofString "due") = some (.lst ((movedR R).map rowD)) := by rw [e3]; simp only [upd, ofS_inj, String.reduceEq, if_false, d2]
  have n3 : Γ3 (Str.ofString "needed") = some (.lst (intsD (nameIx R W'))) := by rw [e3]; simp only [upd, ofS_inj, String.reduceEq, if_true, if_false]
  have m3 : Γ3 (Str.ofString "main") = some (.str main') := by rw [e3]; simp only [upd, ofS_inj, String.reduceEq, if_true, if_false]
  have r4 : Γ4 (Str.ofString "rows") = some (.loc 1) := by rw [e4]; simp only [upd, ofS_inj, String.reduceEq, if_false, r3]
  have d4 : Γ4 (Str.ofString "due") = some (.lst ((movedR R).map rowD)) := by rw [e4]; simp only [upd, ofS_inj, String.reduceEq, if_false, d3]
  have n4 : Γ4 (Str.ofString "needed") = some (.lst (intsD (nameIx R W'))) := by rw [e4]; simp only [upd, ofS_inj, String.reduceEq, if_false, n3]
  have p4 : Γ4 (Str.ofString "plain") = some (.lst ((pick R (nameIx R W')).map rowD)) := by rw [e4]; simp only [upd, if_true]
  have r5 : Γ5 (Str.ofString "rows") = some (.loc 1) := by rw [e5]; simp only [upd, ofS_inj, String.reduceEq, if_false, r4]
  have d5 : Γ5 (Str.ofString "due") = some (.lst ((movedR R).map rowD)) := by rw [e5]; simp only [upd, ofS_inj, String.reduceEq, if_false, d4]
  have n5 : Γ5 (Str.ofString "needed") = some (.lst (intsD (nameIx R W'))) := by rw [e5]; simp only [upd, ofS_inj, String.reduceEq, if_false, n4]
  have p5 : Γ5 (Str.ofString "plain") = some (.lst ((pick R (nameIx R W')).map rowD)) := by rw [e5]; simp only [upd, ofS_inj, String.reduceEq, if_false, p4]
  have g5 : Γ5 (Str.ofString "generics") = some (.lst (strsD (gens R))) := by rw [e5]; simp only [upd, if_true]
  have r6 : Γ6 (Str.ofString "rows") = some (.loc 1) := by rw [e6]; simp only [upd, ofS_inj, String.reduceEq, if_false, r5]
  have n6 : Γ6 (Str.ofString "needed") = some (.lst (intsD (nameIx R W'))) := by rw [e6]; simp only [upd, ofS_inj, String.reduceEq, if_false, n5]
  have p6 : Γ6 (Str.ofString "plain") = some (.lst ((pick R (nameIx R W')).map rowD)) := by rw [e6]; simp only [upd, ofS_inj, String.reduceEq, if_false, p5]
  have s6 : Γ6 (Str.ofString "stays") = some (.lst (((movedR R).filter fun r => !isGBm R r).map rowD)) := by rw [e6]; simp only [upd, if_true]
  have hSl : ((movedR R).filter fun r => !isGBm R r).length ≤ 900 := Nat.le_trans (List.length_filter_le _ _) (by omega)
  refine ⟨Γ6, ?_⟩
  rw [law2 hP.2 hm, ← e1, law3 r1 hrow d1 (by omega) (by omega) hb, law4 d1 n1, ← e2, law5 d2 n2' m2 (by omega) (by omega) name_lt o1, law6 r2 n2, ← e3, law7 r3 m3 o2, ← e4, law8 r4 hrow (by omega), ← e5, law9 d5 g5 (by omega), ← e6]
  refine law10 r6 hrow n6 p6 s6 (by omega) (by omega) name_lt hSl ?_
  rw [moved_stays g, pick_name]
  exact both_same

theorem run_true (ns : List Int) (h : ns.length ≤ 63) : fn15 [.lst (ns.map .int)] [] = some (.bool true, []) := by
  obtain ⟨Γ0, hΓ0⟩ : ∃ Γ, Γ = upd noCtx (Str.ofString "script") (.lst (ns.map .int)) := ⟨_, rfl⟩
  have a0 : Γ0 (Str.ofString "script") = some (.lst (ns.map .int)) := by rw [hΓ0]; simp only [upd, if_true]
  have hP : PB (upd (upd Γ0 (Str.ofString "bowl") (.loc 0)) (Str.ofString "rows") (.loc 1)) := ⟨by simp only [upd, ofS_inj, String.reduceEq, if_true, if_false], by simp only [upd, ofS_inj, String.reduceEq, if_true, if_false]⟩
  have hrow : (ns.take 50).length ≤ 50 := by rw [List.length_take]; omega
  obtain ⟨R, k, Γ1, q1, _, q2, q3, q4, q5⟩ := law1 hP hrow
  obtain ⟨Γ2, q6⟩ := law_end (k := k) (row := ns.take 50) q1 q2 q3 q4
  have all : exSs 60 T14 mv15 (B15.drop 0) Γ0 [] = some (.ret (.bool true), Γ2, lawSt k (ns.take 50) R) := by
    rw [law0 a0 (by omega), q5, q6]
  unfold fn15 mkFn
  conv in (defOf _ _) => whnf
  refine runFn_of ?_ all ?_
  · rw [hΓ0]; rfl
  · rfl
end Mine

-- the head and the join
open PySem PySem.W PyProof.Rows PySem.Calls
namespace Mine
set_option maxRecDepth 100000
set_option maxHeartbeats 8000000
noncomputable def keepL : List Nat := (PySem.Challenge.pw_rg0001_01.main.body.zipIdx.filter fun x => match x.1 with | .Assign [.Name y _] _ _ => decide (y ≠ Str.ofString "__name__") | _ => true).map (·.2)
noncomputable def vw : Program := PySem.W.view PySem.Challenge.pw_rg0001_01 keepL
noncomputable def restS : Str := Str.ofString "_law_rest"
noncomputable def obsF (h : Heap) : Bool := match h.get? mainGlobals with
  | some ⟨_, _, .dict es _, _⟩ => match nsFind es restS with
    | some (.ref a) => match h.get? a with
      | some ⟨_, none, _, s⟩ => s.isEmpty && decide (a ≠ sysModules)
      | _ => false
    | _ => false
  | _ => false
noncomputable def saysF (h : Heap) : Prop := ∃ o es ep a q, h.get? mainGlobals = some o ∧ o.data = .dict es ep ∧ nsFind es restS = some (.ref a) ∧ h.get? a = some q ∧ q.dict = none ∧ q.slots = #[] ∧ a ≠ sysModules
theorem says_of {h : Heap} (e : obsF h = true) : saysF h := by
  unfold obsF at e
  split at e
  · rename_i c d es ep s h1
    split at e
    · rename_i a h2
      split at e
      · rename_i c' dt s' h3
        simp only [Bool.and_eq_true, decide_eq_true_eq] at e
        exact ⟨_, es, ep, a, _, h1, rfl, h2, h3, rfl, Array.isEmpty_iff.mp e.1, e.2⟩
      · cases e
    · cases e
  · cases e
theorem says_keep {h h' : Heap} (x : saysF h) (hk : ∀ b o, h.get? b = some o → h'.get? b = some o) : saysF h' :=
  let ⟨o, es, ep, a, q, h1, h2, h3, h4, h5, h6, h7⟩ := x
  ⟨o, es, ep, a, q, hk _ _ h1, h2, h3, hk _ _ h4, h5, h6, h7⟩
noncomputable def hookF : Hook := ⟨Bool, fun s => obsF s.heap, fun _ => true, fun _ h => saysF h, fun _ _ e => says_of e, fun _ _ _ x k => says_keep x k⟩

theorem law_ok : PySem.Challenge.rw_rg0001_01.wellSaid = true := by kernel_rfl
theorem law_left : LeftO PySem.Challenge.pw_rg0001_01 vw [] (fun s => xlAt vw [] s && recOk [] s) (Hook.obs hookF) (Hook.val hookF) 2200 := by
  intro w
  kernel_rfl
theorem recs_ok : ∀ x ∈ allNames, recD vw x = defOf x stmts := by
  intro x hx
  simp only [allNames, List.mem_cons, List.not_mem_nil, or_false] at hx
  rcases hx with rfl | rfl | rfl | rfl | rfl | rfl | rfl | rfl | rfl | rfl | rfl | rfl | rfl | rfl | rfl <;> kernel_rfl
theorem rest_is : tupIntsOf vw restS = some restL := by kernel_rfl
theorem rest_rep {w : World} {mg : Str → Option Value} {h : Heap} (KX : saysF h) (B : Tables vw w mg h) (g : h.Ns mainGlobals mg) : ∃ v, mg restS = some v ∧ Rep w (fun a => h.get? a) v restD := by
  obtain ⟨a, vs, h1, ⟨o, h2, h3, n, h4⟩, h5⟩ := B.tupI _ _ rest_is
  obtain ⟨o1, es, ep, q1, q2, _, q4⟩ := g
  obtain ⟨o1', es', ep', a', o', k1, k2, k3, k4, k5, k6, k7⟩ := KX
  have e1 : o1 = o1' := by have := q1.symm.trans k1; exact Option.some.inj this
  subst e1
  have e2 := q2.symm.trans k2
  injection e2 with e2 _
  subst e2
  rw [q4, h1] at k3
  injection k3 with k3
  injection k3 with k3
  subst k3
  have e3 : o = o' := by have := h2.symm.trans k4; exact Option.some.inj this
  subst e3
  refine ⟨.ref a, h1, .obj (o := tupO vs n) ?_ ?_ (.tup (rep_ints h5))⟩
  · rw [h2]
    obtain ⟨c, d, dt, s⟩ := o
    simp only at h3 h4 k5 k6
    subst h3 h4 k5 k6
    rfl
  · exact k7

theorem def_some : (PySem.W.defOf vw PySem.Challenge.rw_rg0001_01.row.name).isSome = true := by kernel_rfl
noncomputable def dR : DefRec := ((PySem.W.defOf vw PySem.Challenge.rw_rg0001_01.row.name).get def_some).1
theorem law_holds : PySem.Challenge.rw_rg0001_01.Holds := by
  refine holds_law law_ok fun said => ?_
  refine holds_open (q := vw) (loose := []) (Xt := fun s => xlAt vw [] s && recOk [] s) (XP := XL vw []) (Yf := Hook.obs hookF) (Ya := Hook.val hookF) (YP := Hook.says hookF) (N := 2200) (d := dR) (kwd := []) law_left (Hook.of hookF) (Hook.keeps hookF) (fun s e => xl_of s (Bool.and_eq_true_iff.mp e).1) XL.keeps (by kernel_rfl) (by kernel_rfl) (by kernel_rfl) (fun s e => recFacts_of (Bool.and_eq_true_iff.mp e).2) (by rfl) (by assumption) (by kernel_rfl) ⟨rfl, rfl, rfl, rfl, rfl, by decide +kernel⟩ ?hw ?hc
  case hw => w_witness2
  case hc =>
    w_strict (
      intro w s₀ s₁ mg mb G Y fa o pm cd doc dV kV ho hdata hcd hD hmg hgens args vals as hpre hlay hrd hwl hlo
      have GL := Ground.glob G (by decide +kernel) (by decide +kernel)
      have hlo' := hlo
      wrow_args hpre hlay hrd hwl hlo
      rename Well _ _ _ _ => hW
      rename IntsAre _ _ => hI
      rename Heap.IsList _ _ _ => hL
      rename Reads _ _ _ _ => hR
      rename ¬ _ => hlen
      simp only [ofPy] at hW
      obtain ⟨ob, hg1, hc1, n1, hd1⟩ := hL
      cases hW with
      | list hget _ =>
      rw [hget] at hg1
      cases hg1
      simp only [Data.seq.injEq] at hd1
      have hv := congrArg Array.toList hd1.1
      subst hv
      cases hR with
      | list r1 r2 r3 r4 =>
      have hsys := hlo' _ (List.mem_append_left _ List.mem_cons_self)
      refine law_call (B := ⟨_, w, s₁.heap, mg, mb, GL.g, GL.b, GL.builtins, GL.nolimit⟩) (n := 0) (fun x hx => ?_) (fun x hx ps b sc e => isRec_of G.T ((recs_ok x hx).trans e)) (rest_rep Y G.B GL.g) rfl hmg ⟨rfl, by decide, by decide⟩ hget (by simpa using hsys) hI (run_true _ (by omega)) fun h' tk hk => ?_
      · simp only [List.mem_cons, List.not_mem_nil, or_false] at hx
        rcases hx with rfl | rfl | rfl | rfl | rfl | rfl <;> exact GL.free _ (by decide +kernel) (by decide +kernel)
      · exact ⟨.inl ⟨.bool true, .bool true, [], rfl, fun cls => rfl, .bool true, (by first | wrow_post | rfl | decide +kernel), fun _ => ⟨List.nodup_nil, fun a h => by simp at h⟩⟩, OldK.of_keep hk, rfl, .of_eq hgens⟩)
end Mine


theorem PySem.Challenge.cw_rg0001_01_holds : PySem.Challenge.rw_rg0001_01.Holds :=
  Mine.law_holds
